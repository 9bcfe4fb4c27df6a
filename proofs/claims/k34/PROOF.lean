import PyProof.Rows.All
import KE.OsRunLaw
import KE.KNestM
import PySem.Challenge.RW_missedparts_k34_whole_least_taken_texts
import Wide.All
import OpenK.AllK
import Wide.FinOn
import HandS.ForMost
import HandS.SortKw
import HandS.EndTab
import HandS.IsInst
import HandS.StrMore
import HandS.TupLe
import HandS.WideBits
import HandS.Walk
import HandS.Deep
import HandS.ListItems
import HandS.Conv
import HandS.More
import PyProof.ReprRoads
import KE.SortKeyHeap
import KE.KDictCopyH
import PyProof.ReprLen
import KE.DataMinKey
import HandS.Set
import HandS.Strs
import HandS.Property
import HandS.OwnEq
import HandS.FStr
import OpenK.KOps
import OpenK.KMeth
import KE.GoesZip
import KE.GoesMore
import KE.GoesEnum
import KE.KIsAll
import HandS.Replace
import HandS.ClsMeth
import PyProof.StrLawsFirst
import HandS.MakeKwOnly
import KE.KOpsOwn
import HandS.Exc
import HandS.ExcInit
import KE.KExcSuper
import KE.KEqNest
import PyProof.ReprReads
import HandS.SetBool
import HandS.TupSets
import HandS.TryOnly
import HandS.ExcOwn
import HandS.WordsExc
import HandS.ExcField
import HandS.ExcIs
import PyProof.ExcBaseAll.ValueError
import PyProof.ExcBaseAll.RuntimeError
import PyProof.ExcBaseAll.ArithmeticError
import HandS.Lambda
import HandS.Nested
import HandS.TryMany
import HandS.TupLen
import KE.KeyNested
import KE.SortData
import KE.KDictSum
import KE.KDictPairs
import KE.KDictKeyed
import PyProof.EqKinds
import KE.KDictZip
import KE.KDictItemsList
import KE.KDictDisplayH
import PyProof.DictTable
import HandS.DictComp
import PyProof.ReprHeadsEmpty
import HandS.Style
import PyProof.TupleOfStr
import HandS.DictTup
set_option Elab.async false
set_option linter.all false
set_option maxRecDepth 100000
set_option maxHeartbeats 4000000
namespace L3
open PySem PySem.W PySem.Calls PyProof.Rows HeadRun
/-- what a hook with tables looks at, off the tree -/
def kmOb (as ts : List Addr) (s : SharedT) : List (Option Obj) × List (Option Obj) := (as.map (getT s), ts.map (getT s))
theorem kmOb_ok {K : Params → Frag} {as : List Addr} {e : ∀ P, as = (K P).map (·.1)} {ts : List Addr} (s : SharedT) : kmOb as ts s = (kmHook K as e ts).obs s.abs :=
  Prod.ext (List.map_congr_left fun a _ => getT_eq s a) (List.map_congr_left fun a _ => getT_eq s a)
theorem map_three {α β γ δ : Type} {o : Option α} {f : α → β} {g : α → γ} {h : α → δ} {b : β} {c : γ} {d : δ}
    (x : o.map f = some b) (y : o.map g = some c) (z : o.map h = some d) : o.map (fun s => (f s, g s, h s)) = some (b, c, d) := by
  cases o with
  | none => cases x
  | some s => cases x; cases y; cases z; rfl
/-- the state behind the top -/
noncomputable abbrev endOf (p : Program) (M : Nat) (w : World) (os : OsState) : Option SharedT := endF (stepQ (denQ tabQ) p w) M p w os
/-- the head by three runs, each checked apart -/
theorem head3 {r : OpenRow} {p q : Program} {H : Hook} {ob : SharedT → H.α} {M : Nat} {loose : List PySem.Str} {d : DefRec} {kwd : List (PySem.Str × PySem.Expr)} (hr : r.prog = p) (hrec : r.toRowW.records = [])
    (ho : ∀ s : SharedT, ob s = H.obs s.abs)
    (e : opening p = plainProg p.main.scope.names) (f : ∀ s, fenceModules? p s = some s)
    (rA : ∀ w os, (endOf p M w os).map (fun s => looksF p (boot_heap w.params) s.abs) = some true)
    (rB : ∀ w os, (endOf p M w os).map (fun s => seenQ q loose (importedModules p.main.body) (fun s => xlAt q [] s && recOk [] s) s.abs) = some (openGood q loose))
    (rC : ∀ w os, (endOf p M w os).map ob = some (H.val w))
    (hdef : defOf q r.name = some (d, kwd)) (hp : r.prog.theDef r.name = some (d.params, d.body, d.scope)) (hk : kwWritten? d.params.kwonlyargs d.params.kw_defaults = some kwd)
    (hwr : (!r.writes || r.records.isEmpty) = true) (k1 : r.wellSaid = true) (ok : (chainsOk q && opensWell r.prog && (frees r.toRowW && r.within.isEmpty)) = true) (hb : r.prog.bare) (hw : r.toRowW.promised)
    (call : WalkO q loose (XL q []) H.says r.toRowW d kwd fun f vs => PySem.call f vs) : r.Holds := by
  subst hr
  refine head_any (M := M) (ob := ob) ho e f (fun w os => ?_) hdef hp hk hwr k1 ok hb hw call
  have z := map_three (rA w os) (rB w os) (rC w os)
  rw [hrec]
  exact z
theorem map_l {α β γ : Type} {o : Option α} {f : α → β} {g : α → γ} {b : β} {c : γ} (x : o.map (fun s => (f s, g s)) = some (b, c)) : o.map f = some b := by
  cases o with
  | none => cases x
  | some s => exact congrArg some (Prod.mk.inj (Option.some.inj x)).1
theorem map_r {α β γ : Type} {o : Option α} {f : α → β} {g : α → γ} {b : β} {c : γ} (x : o.map (fun s => (f s, g s)) = some (b, c)) : o.map g = some c := by
  cases o with
  | none => cases x
  | some s => exact congrArg some (Prod.mk.inj (Option.some.inj x)).2
/-- the looks at the view, one of them -/
noncomputable abbrev seenAt (p q : Program) (l : List PySem.Str) (s : SharedT) := seenQ q l (importedModules p.main.body) (fun s => xlAt q [] s && recOk [] s) s.abs
end L3
namespace Lw
open PySem PySem.W PyProof.Rows HeadRun L3
/-- a program with the last of its top's statements alone -/
def viewFrom (p : Program) (n : Nat) : Program := { p with main := { p.main with body := p.main.body.drop n } }
noncomputable abbrev pz : Program := PySem.Challenge.pw_missedparts_k34_whole_least_taken_texts
noncomputable def qz : Program := viewFrom pz 111
def lz : List PySem.Str := [PySem.Str.ofString "_wall", PySem.Str.ofString "PartsError", PySem.Str.ofString "InvalidText", PySem.Str.ofString "InvalidLetters", PySem.Str.ofString "InvalidLetter", PySem.Str.ofString "InvalidPlace", PySem.Str.ofString "InvalidMachine", PySem.Str.ofString "InvalidSum", PySem.Str.ofString "InvalidRows", PySem.Str.ofString "InvalidKinds", PySem.Str.ofString "InvalidProducts", PySem.Str.ofString "InvalidTexts", PySem.Str.ofString "StateError", PySem.Str.ofString "OtherLetters", PySem.Str.ofString "NotComeTo", PySem.Str.ofString "LimitError", PySem.Str.ofString "TooMany", PySem.Str.ofString "SMALL_basics", PySem.Str.ofString "MOST_LETTERS", PySem.Str.ofString "is_integer", PySem.Str.ofString "is_list", PySem.Str.ofString "is_text", PySem.Str.ofString "are_letters", PySem.Str.ofString "is_text_over", PySem.Str.ofString "want_few", PySem.Str.ofString "is_row", PySem.Str.ofString "want_machine", PySem.Str.ofString "met_from", PySem.Str.ofString "machine_from", PySem.Str.ofString "Machine", PySem.Str.ofString "want_text", PySem.Str.ofString "want_letter", PySem.Str.ofString "want_place", PySem.Str.ofString "want_same", PySem.Str.ofString "want_right", PySem.Str.ofString "want_places", PySem.Str.ofString "led", PySem.Str.ofString "is_taken", PySem.Str.ofString "contrary", PySem.Str.ofString "is_so", PySem.Str.ofString "paired_by", PySem.Str.ofString "numbers_of", PySem.Str.ofString "classes_of", PySem.Str.ofString "least_made", PySem.Str.ofString "least_of", PySem.Str.ofString "made_least", PySem.Str.ofString "want_texts", PySem.Str.ofString "want_texts_parts", PySem.Str.ofString "is_part_of", PySem.Str.ofString "is_part", PySem.Str.ofString "SMALL_products", PySem.Str.ofString "STAR", PySem.Str.ofString "MOST_IN_STAR", PySem.Str.ofString "MOST_PIECES", PySem.Str.ofString "LOST", PySem.Str.ofString "is_star", PySem.Str.ofString "letters_in", PySem.Str.ofString "are_rising", PySem.Str.ofString "is_piece", PySem.Str.ofString "is_product", PySem.Str.ofString "is_product_over", PySem.Str.ofString "holds", PySem.Str.ofString "place_behind", PySem.Str.ofString "place_by", PySem.Str.ofString "has_text", PySem.Str.ofString "lies_within", PySem.Str.ofString "reduced_of", PySem.Str.ofString "kept_of", PySem.Str.ofString "met_behind", PySem.Str.ofString "meet_of", PySem.Str.ofString "MOST_PARTS_LETTERS", PySem.Str.ofString "sum_of", PySem.Str.ofString "meets_of", PySem.Str.ofString "left_behind", PySem.Str.ofString "want_letters", PySem.Str.ofString "want_texts_sums", PySem.Str.ofString "most_letters", PySem.Str.ofString "Sum", PySem.Str.ofString "MOST_PLACES", PySem.Str.ofString "MOST_TEXTS", PySem.Str.ofString "least_taken", PySem.Str.ofString "up", PySem.Str.ofString "sure_parts", PySem.Str.ofString "_law_pot", PySem.Str.ofString "_law_draw", PySem.Str.ofString "_law_pick", PySem.Str.ofString "_law_mixed", PySem.Str.ofString "_law_rows", PySem.Str.ofString "_law_kinds", PySem.Str.ofString "_law_is_star", PySem.Str.ofString "_law_fits", PySem.Str.ofString "_law_within", PySem.Str.ofString "_law_reduced", PySem.Str.ofString "_law_kept", PySem.Str.ofString "_law_gone", PySem.Str.ofString "_law_has", PySem.Str.ofString "_law_texts", PySem.Str.ofString "_law_is_part", PySem.Str.ofString "_law_is_taken", PySem.Str.ofString "_law_is_sure", PySem.Str.ofString "_law_least", PySem.Str.ofString "_law_right"]
theorem hdA : ∀ w os, (endOf pz 17328 w os).map (fun s => (looksF pz (boot_heap w.params) s.abs, seenAt pz qz lz s)) = some (true, openGood qz lz) := by
  intro w os; kernel_rfl
local macro_rules | `(tactic| o_head ($f $k $a $e $t)) => `(tactic| (
  refine' head3 (p := pz) (q := qz) (loose := lz) (M := 17328) (H := $f $k $a $e $t) (ob := kmOb $a $t) rfl rfl (fun s => kmOb_ok s) ?e ?f (fun w os => map_l (hdA w os)) (fun w os => map_r (hdA w os)) ?rC (by rfl) (by rfl) (by rfl) (by rfl) (by first | assumption | decide +kernel) (by decide +kernel) ⟨rfl, rfl, rfl, rfl, rfl, by decide +kernel⟩ ?hw ?hc
  (case e => kernel_rfl)
  (case f => intro s; kernel_rfl)
  (case rC => intro w os; kernel_rfl)))
set_option maxHeartbeats 0 in
open_top hd for PySem.Challenge.rw_missedparts_k34_whole_least_taken_texts
end Lw
namespace L3
open PySem PySem.Spec PyProof.Rows L2
/-- as FnOk, where no guard stands around -/
structure FnOkG (P : Program) (w : World) (K : PySem.W.Frag) (mg : Str → Option Value) (base : Heap) (CX : CXT) (k : Nat) (f : Addr) (fd : FuncData) (ps : List Str) (sp : Sp) : Prop where
  len : ∀ vs H Q E, sp vs H Q E → vs.length = ps.length
  run : ∀ (A : Around) (outer : List Env) (s : Shared) (H : Hp) (args : Args) (us : List Value) (vs : List V) (Q : VK) (E : XK), Room k A → A.guards = some [] → Env0 P w K mg base A outer s H → BindsTo s fd args (ps.zip us) → Vals vs us → sp vs H Q E →
    codeAny (model P w) A (.call (.ref f) args) (CR CX outer P w H s Q E) s
theorem FnOkG.of {P : Program} {w : World} {K : PySem.W.Frag} {mg : Str → Option Value} {base : Heap} {CX : CXT} {k : Nat} {f : Addr} {fd : FuncData} {ps : List Str} {sp : Sp} (F : FnOk P w K mg base CX k f fd ps sp) : FnOkG P w K mg base CX k f fd ps sp :=
  ⟨F.len, fun A outer s H args us vs Q E hr _ => F.run A outer s H args us vs Q E hr⟩
theorem FnOkG.mono {P : Program} {w : World} {K : PySem.W.Frag} {mg : Str → Option Value} {base : Heap} {CX : CXT} {j k : Nat} {f : Addr} {fd : FuncData} {ps : List Str} {sp : Sp} (F : FnOkG P w K mg base CX j f fd ps sp) (h : j ≤ k) : FnOkG P w K mg base CX k f fd ps sp :=
  ⟨F.len, fun A outer s H args us vs Q E hr => F.run A outer s H args us vs Q E (hr.mono h)⟩
section
variable {P : Program} {w : World} {K : PySem.W.Frag} {mg : Str → Option Value} {base : Heap}
theorem fn_ofG {CX : CXT} {k : Nat} {f : Addr} {name qual : Str} {params : Arguments} {body : List Stmt} {scope : Scope} {dV kV doc pm cdv ct oc : Value} {an od : Option Addr}
    {osl : Array (Option Value)} {N ps : List Str} {sp : Sp} (lk : K.lookup f = some ⟨oc, od, .func (PySem.W.fnOf name qual params body scope dV kV doc pm an cdv ct), osl⟩) (hcd : PySem.W.codeIn K cdv qual = true) (S : FnScope N ps scope)
    (len : ∀ vs H Q E, sp vs H Q E → vs.length = ps.length)
    (hbody : ∀ (A : Around) (outer : List Env) (s : Shared) (H : Hp) (vs : List V) (Q : VK) (E : XK), Room k (A.deeper (envOfC qual scope s.heap.objs.size f cdv)) → A.guards = some [] → sp vs H Q E →
      ∃ t, PSs (cxOf CX P w K mg base N qual scope f cdv A outer s H E) body t ∧ t { nx := fun _ H' => Q .non H', rt := Q } (L2.start N vs) H) :
    FnOkG P w K mg base CX (k + 1) f (PySem.W.fnOf name qual params body scope dV kV doc pm an cdv ct) ps sp := by
  refine ⟨len, fun A outer s H args us vs Q E hr hg e0 hb r hsp => ?_⟩
  exact LamX.run_ofS lk hcd S hr e0 hb r (len _ _ _ _ hsp) fun hr' => hbody A outer s H vs Q E hr' hg hsp
theorem okG {x qual : Str} {st : Stmt} {f : Addr} {fd : FuncData} {N ps : List Str} {k : Nat} {sp : Sp} (F : Fun K x qual st f fd) (S : FnScope N ps (defScope st)) (len : ∀ vs H Q E, sp vs H Q E → vs.length = ps.length)
    (hbody : ∀ (cdv : Value) (A : Around) (outer : List Env) (s : Shared) (H : Hp) (vs : List V) (Q : VK) (E : XK), Room k (A.deeper (envOfC qual (defScope st) s.heap.objs.size f cdv)) → A.guards = some [] → sp vs H Q E →
      ∃ t, PSs (cxOf CX0 P w K mg base N qual (defScope st) f cdv A outer s H E).nox (defBody st) t ∧ t { nx := fun _ H' => Q .non H', rt := Q } (L2.start N vs) H) : FnOkG P w K mg base CX0 (k + 1) f fd ps sp := by
  obtain ⟨oc, od, kV, doc, pm, an, cdv, ct, osl, rfl, lk, hcd⟩ := F.ex
  refine fn_ofG lk hcd S len fun A outer s H vs Q E hr hg hsp => ?_
  obtain ⟨t, h, q⟩ := hbody cdv A outer s H vs Q E hr hg hsp
  exact ⟨t, h.nox, q⟩
end
section
variable {X : Cx} {CX : CXT} {k : Nat} {f : Addr} {fd : FuncData} {ps ks : List Str} {sp : Sp} {E : XK} {x : Str} {p pos : Pos} {e : Expr} {es : List Expr} {kws : List Keyword} {t tk : TA} {g : List Value → List Value → List Value} {gV : List V → List V → List V}
theorem run_fnG {pins : List (Addr × Obj)} {σ : L2.St} {H : Hp} {s : Shared} {Q : VK} {us ws : List Value} {vs : List V} {kw : List (Str × Value)} (F : FnOkG X.prog X.w X.K X.mg X.base CX k f fd ps sp) (hr : Room k X.A) (hG : X.A.guards = some []) (hx : Passes CX X E)
    (I : Inv X pins σ H s) (hb : BindsTo s fd ⟨us, kw⟩ (ps.zip ws)) (r : Vals vs ws) (h : sp vs H Q E) : wpAny (model X.prog X.w) X.A (call (.ref f) us kw) (EP X pins σ Q) X.xe s := by
  refine wpAny_call (codeAny_mono (F.run X.A X.stack s H ⟨us, kw⟩ ws vs Q E hr hG I.env0 hb r h) fun r s' hq => ?_)
  cases r with
  | error e => exact hx pins σ H s e s' I hq
  | ok fl =>
    cases fl with
    | ret u => exact I.after hq
    | next => exact False.elim hq
    | brk => exact False.elim hq
    | cont => exact False.elim hq
/-- f(e, ..) -/
theorem pe_callG (F : FnOkG X.prog X.w X.K X.mg X.base CX k f fd ps sp) (hr : Room k X.A) (hG : X.A.guards = some []) (hg : Gl X x) (hm : X.mg x = some (.ref f)) (hk : PySem.W.keepIn X.K (.ref f) = true) (hb : L2.Binds X.K fd ps []) (hx : Passes CX X E)
    (ha : PA X (e :: es) t) (hdb : (x == ("__debug__" : Str)) = false := by decide) (he : starEach (e :: es) X.env = (false, eval e X.env) :: starEach es X.env := by rfl) (hpl : (backTo pos (starEach es X.env)).any (·.1) = false := by rfl) :
    PE X (.Call (.Name x p) (e :: es) [] pos) (tCall sp [] E t) := by
  refine ⟨fun pins s σ H Q I h => ?_⟩
  refine wpAny_Call_Name_kw (ld_glob I hg hm ?_ hdb)
  refine PySem.W.callWith_K (h₀ := X.base) I.ok.mod.kin hk (thn (ha.run pos pins s σ H _ I h) fun us s1 ⟨vs, H1, I1, r, q⟩ => ⟨I1.kIn, ?_⟩) he hpl
  have q : sp (vs ++ []) H1 Q E := q
  rw [List.append_nil] at q
  have hl : (us ++ []).length = ps.length := by rw [List.append_nil, ← r.length]; exact F.len _ _ _ _ q
  exact run_fnG F hr hG hx I1 (hb s1 us I1.kIn hl) (by rw [List.append_nil]; exact r) q
/-- f(k = v, ..), keywords alone -/
theorem pe_callK0 (F : FnOkG X.prog X.w X.K X.mg X.base CX k f fd ps sp) (hr : Room k X.A) (hG : X.A.guards = some []) (hg : Gl X x) (hm : X.mg x = some (.ref f)) (hk : PySem.W.keepIn X.K (.ref f) = true) (hb : KBinds X.K fd ps ks g gV) (hx : Passes CX X E)
    (hkw : PK X kws tk) (hall : (backToKw pos (keywordEach kws X.env)).all (·.1.isSome) = true := by rfl) (hks : (backToKw pos (keywordEach kws X.env)).filterMap (·.1) = ks := by rfl)
    (hdb : (x == ("__debug__" : Str)) = false := by decide)
    (hpl : ((backTo pos (starEach [] X.env)).any (·.1) || (backToKw pos (keywordEach kws X.env)).any (·.1.isNone)) = false := by rfl) :
    PE X (.Call (.Name x p) [] kws pos) (tCallK sp gV E tNil tk) := by
  refine ⟨fun pins s σ H Q I h => ?_⟩
  refine wpAny_Call_Name_kw (ld_glob I hg hm ?_ hdb)
  refine PySem.W.callWith_KW0 (h₀ := X.base) I.ok.mod.kin hk hall (thn (hkw.run pos pins s σ H _ I h) fun ws s2 ⟨zs, H2, I2, rz, q2⟩ => ⟨I2.kIn, ?_⟩) hpl
  rw [hks]
  have r2 := hb.rel (vs := []) (us := []) .nil rz
  have hl : (g [] ws).length = ps.length := by rw [← r2.length]; exact F.len _ _ _ _ q2
  exact run_fnG F hr hG hx I2 (hb.to s2 [] ws I2.kIn hl) r2 q2
end
end L3
namespace L3
open PySem PySem.Spec PyProof.Rows L2
/-- a text by its codes -/
abbrev tS (l : List Nat) : Str := ⟨l.toArray⟩
abbrev tx (l : List Nat) : V := .str (tS l)
theorem tS_len (l : List Nat) : (tS l).length = l.length := by show l.toArray.size = _; simp
theorem tS_inj {a b : List Nat} (h : tS a = tS b) : a = b := by
  have h2 : a.toArray = b.toArray := congrArg Str.cps h
  simpa using congrArg Array.toList h2
theorem tS_app (a b : List Nat) : tS a ++ tS b = tS (a ++ b) := by
  show (⟨a.toArray ++ b.toArray⟩ : Str) = _
  simp
theorem tx_inj {a b : List Nat} (h : tx a = tx b) : a = b := tS_inj (V.str.inj h)
section
variable {X : Cx}
theorem op_addT : OpR X (binaryOp .Add) (fun x y H Q => ∃ a b, x = tx a ∧ y = tx b ∧ a.length + b.length ≤ sizeLine ∧ Q (tx (a ++ b)) H) := by
  intro pins s σ H x y v u Q I rx ry h
  obtain ⟨a, b, rfl, rfl, hz, q⟩ := h
  exact op_add_str pins s σ H _ _ v u Q I rx ry ⟨_, _, rfl, rfl, by rw [tS_len, tS_len]; exact hz, by rw [tS_app]; exact q⟩
def stepL (l : List Nat) (k : Int) : List Nat := (Builtin.Str.strSliceIndices none none k l.length).filterMap (l[·]?)
end
end L3
namespace L3
open PySem PySem.Spec PyProof.Rows L2
mutual
theorem dp_noDict {K : PySem.W.Frag} {H : Hp} : ∀ {v : V} {d : PyData}, Dp K H v d → d.hasDict = false
  | _, .none, _ => by simp only [PyData.hasDict]
  | _, .bool _, _ => by simp only [PyData.hasDict]
  | _, .int _, _ => by simp only [PyData.hasDict]
  | _, .str _, _ => by simp only [PyData.hasDict]
  | _, .list ds, h => by
    cases h with
    | lst hs ha => simp only [PyData.hasDict]; exact dpAll_noDict ha
  | _, .tuple ds, h => by
    cases h with
    | tup hs ha => simp only [PyData.hasDict]; exact dpAll_noDict ha
  | _, .dict _, h => by cases h
theorem dpAll_noDict {K : PySem.W.Frag} {H : Hp} : ∀ {vs : List V} {ds : List PyData}, DpAll K H vs ds → PyData.hasDictAll ds = false
  | _, [], _ => by simp only [PyData.hasDictAll]
  | _, d :: ds, h => by
    cases h with
    | cons h1 h2 => simp only [PyData.hasDictAll, dp_noDict h1, dpAll_noDict h2, Bool.or_self]
end
theorem len_toL (acc : Array Value) : acc.toList.length = acc.size := by simp
section
variable {X : Cx}
/-- repr(x) of data: none, bools, ints, texts, lists, tuples -/
def rRepr (K : PySem.W.Frag) : List V → Hp → VK → Prop := fun xs H Q => ∃ (x : V) (d : PyData), xs = [x] ∧ Dp K H x d ∧ d.showable = true ∧ d.shown.length ≤ sizeLine ∧ d.depth ≤ 50 ∧ Q (.str d.shown) H
theorem call_reprD {k : Nat} (hr : Room k X.A) (hG : X.A.guards = some []) : CallR X (.builtin "repr") (rRepr X.K) := by
  intro pins s σ H xs us Q I r h
  obtain ⟨x, d, rfl, hd, hs, hz, hdp, q⟩ := h
  obtain ⟨u, rfl, rx⟩ := vals1 r
  have hu := hr.units
  cases hd with
  | non => cases rx; exact P.repr_of_none ⟨.str _, H, I.tok _, ⟨_, rfl⟩, q⟩
  | bl b => cases rx; exact P.repr_of_bool ⟨.str _, H, I.tok _, ⟨_, rfl⟩, q⟩
  | int i =>
    obtain ⟨t, rfl⟩ := rx
    have hs' : i.natAbs.log2 < 1920 := by simpa [PyData.showable] using hs
    exact P.repr_of_int hs' ⟨.str _, H, I.tok _, ⟨_, rfl⟩, q⟩
  | str z =>
    obtain ⟨t, rfl⟩ := rx
    exact P.repr_of_str ⟨.str _, H, I.tok _, ⟨_, rfl⟩, q⟩ hz
  | @lst a xs ds hq ha =>
    cases rx
    obtain ⟨as, hR⟩ := Dp.reads I (.list ds) (.ref a) (.ref a) (.lst hq ha) rfl
    refine repr_of_reads' hR hs (PyData.noDict_hsm (dp_noDict (K := X.K) (H := H) (.lst hq ha))) hG (by omega) (fun _ _ e => e) (fun h' t tk hk => ?_) hz
    exact ⟨.str _, H, I.kept hk, ⟨_, rfl⟩, q⟩
  | @tup a xs ds hq ha =>
    cases rx
    obtain ⟨as, hR⟩ := Dp.reads I (.tuple ds) (.ref a) (.ref a) (.tup hq ha) rfl
    refine repr_of_reads' hR hs (PyData.noDict_hsm (dp_noDict (K := X.K) (H := H) (.tup hq ha))) hG (by omega) (fun _ _ e => e) (fun h' t tk hk => ?_) hz
    exact ⟨.str _, H, I.kept hk, ⟨_, rfl⟩, q⟩
/-- list(text) -/
theorem call_listT (hc : X.calm = true) : CallR X (.type "list") (fun xs H Q => ∃ l, xs = [tx l] ∧ l.length ≤ sizeLine ∧ ∀ p, H p = none → Q (.ref p) (upd H p (.lst (l.map fun c => tx [c])))) := by
  intro pins s σ H xs us Q I r h
  obtain ⟨l, rfl, hz, q⟩ := h
  obtain ⟨u, rfl, rx⟩ := vals1 r
  obtain ⟨t, rfl⟩ := rx
  refine call_list_str (I.ok.hd hc) (tS l) t (fun h' tk acc c hk hS hacc => ?_) (by show l.toArray.size ≤ _; simpa using hz)
  have hl : acc.size = l.length := by rw [hacc.1]; simp [tS]
  have hv : Vals (l.map fun c => tx [c]) acc.toList := vals_of_at (by rw [List.length_map, len_toL, hl]) fun j x w h1 h2 => by
    obtain ⟨c, t, e1, e2⟩ := hacc.2 j w (by rw [← Array.getElem?_toList]; exact h2)
    have e3 : l[j]? = some c := by simpa [tS] using e1
    rw [List.getElem?_map, e3] at h1
    cases h1
    subst e2
    exact ⟨t, rfl⟩
  exact ⟨.ref s.heap.objs.size, upd H s.heap.objs.size (.lst (l.map fun c => tx [c])), I.laid (t' := tk) hk (Nat.le_refl _)
    (show ObjOk X.prog X.w _ _ _ (.lst (l.map fun c => tx [c])) from ⟨by rw [List.length_map]; exact hz, acc.toList, c, hv, by rw [Array.toArray_toList]; exact hS⟩), rfl, q _ (I.hok.fresh (Nat.le_refl _))⟩
end
end L3
namespace L3
open PySem PySem.Spec PyProof.Rows L2
end L3
namespace L3
open PySem PySem.Spec PyProof.Rows L2
end L3
namespace L3
open PySem PySem.Spec PyProof.Rows L2
end L3
namespace L3
open PySem PySem.Spec PyProof.Rows L2
end L3
namespace L3
open PySem PySem.Spec PyProof.Rows L2
/-- the tracked heap at the law's call: the script (locked), where it is not written, and the tables -/
def H0 (K : PySem.W.Frag) (a : Addr) (vs : List Value) (ns : List Int) (cs : List (Addr × Addr)) : Hp := fun b =>
  if b = a then (if (K.lookup a).isSome then none else some (.frz { cls := .type "list", data := .seq vs.toArray } (.lst (ns.map V.int)))) else if b ∈ cs.map (·.2) then some (.tbl #[]) else none
theorem law_callG {P : Program} {w : World} {K : PySem.W.Frag} {mg mb : Str → Option Value} {k : Nat} {fa a : Addr} {cs : List (Addr × Addr)} {fd : FuncData} {x : Str} {sp : Sp} {s₁ : Shared} {vs : List Value} {ns : List Int}
    (KX : K.In s₁.heap) (hns : s₁.heap.Ns mainGlobals mg) (hb : s₁.heap.Ns builtinsNs mb) (hbb : ∀ x : Str, x ≠ "__name__" → mb x = bootBuiltins x) (hlim : s₁.heap.NoLimit) (hg : s₁.gens = #[])
    (hT : ∀ p ∈ cs, s₁.heap.get? p.2 = some { cls := .none, data := .fields #[] }) (nT : ∀ p ∈ cs, K.lookup p.2 = none) (C : ∀ p ∈ cs, PySem.W.CodeHd s₁.heap p.1 p.2)
    (hbm : ∃ (bm : Addr) (ob : Obj), mg "__builtins__" = some (.ref bm) ∧ bm ≠ builtinsNs ∧ s₁.heap.get? bm = some ob ∧ ob.cls = .type "module" ∧ ob.dict = some builtinsNs ∧ ob.data = .plain)
    (ha : s₁.heap.get? a = some { cls := .type "list", data := .seq vs.toArray }) (hi : IntsAre vs ns) (hl : ns.length ≤ sizeLine) (hr : Room k callerA)
    (F : ∀ base : Heap, K.In base → base.Ns mainGlobals mg → (∀ p ∈ cs, LamX.TabB base mg p.1 p.2) → FnOkG P w K mg base CX0 k fa fd [x] sp) (hbind : L2.Binds K fd [x] [])
    (hsp : ∀ H : Hp, (∀ p ∈ cs, H p.2 = some (.tbl #[])) → SqL K H a (ns.map V.int) → sp [.ref a] H (fun v _ => v = .bl true) fun _ _ _ => False) :
    codeAny (model P w) callerA (.call (.ref fa) ⟨[.ref a], []⟩) (fun r s' => r = .ok (.ret (.bool true)) ∧ OldK s₁.heap s'.heap ∧ s'.os = s₁.os ∧ AllBare s'.gens) s₁ := by
  have rv := vals_ints hi
  have lenV := hi.length
  have isT : ∀ b : Addr, b ∈ cs.map (·.2) → s₁.heap.get? b = some { cls := .none, data := .fields #[] } := fun b hb => by
    obtain ⟨p, hp, e⟩ := List.mem_map.mp hb
    rw [← e]; exact hT p hp
  have aT : a ∉ cs.map (·.2) := fun z => by
    have q := isT a z
    rw [ha] at q
    cases congrArg Obj.data (Option.some.inj q)
  have memT : ∀ p ∈ cs, p.2 ∈ cs.map (·.2) := fun p hp => List.mem_map.mpr ⟨p, hp, rfl⟩
  -- the three cases of H0
  have hcase : ∀ b, (b = a ∧ H0 K a vs ns cs b = none ∧ (K.lookup a).isSome = true) ∨ (b = a ∧ K.lookup a = none ∧ H0 K a vs ns cs b = some (.frz { cls := .type "list", data := .seq vs.toArray } (.lst (ns.map V.int)))) ∨
      (b ≠ a ∧ b ∈ cs.map (·.2) ∧ H0 K a vs ns cs b = some (.tbl #[])) ∨ (b ≠ a ∧ b ∉ cs.map (·.2) ∧ H0 K a vs ns cs b = none) := fun b => by
    unfold H0
    by_cases e : b = a
    · rw [if_pos e]
      cases hk : K.lookup a with
      | some o => exact .inl ⟨e, rfl, rfl⟩
      | none => exact .inr (.inl ⟨e, rfl, rfl⟩)
    · rw [if_neg e]
      by_cases e2 : b ∈ cs.map (·.2)
      · rw [if_pos e2]; exact .inr (.inr (.inl ⟨e, e2, rfl⟩))
      · rw [if_neg e2]; exact .inr (.inr (.inr ⟨e, e2, rfl⟩))
  have tabAt : ∀ p ∈ cs, H0 K a vs ns cs p.2 = some (.tbl #[]) := fun p hp => by
    rcases hcase p.2 with ⟨e, _⟩ | ⟨e, _⟩ | ⟨_, _, z⟩ | ⟨_, n, _⟩
    · exact absurd (e ▸ memT p hp) aT
    · exact absurd (e ▸ memT p hp) aT
    · exact z
    · exact absurd (memT p hp) n
  have free : ∀ {b : Addr} {o : Obj}, s₁.heap.get? b = some o → (∀ vs n, o.data ≠ .seq vs n) → o.data ≠ .fields #[] → H0 K a vs ns cs b = none := fun {b o} e h1 h2 => by
    rcases hcase b with ⟨_, z, _⟩ | ⟨e', _⟩ | ⟨_, e', _⟩ | ⟨_, _, z⟩
    · exact z
    · rw [e', ha] at e
      cases e
      exact absurd rfl (h1 _ _)
    · rw [isT b e'] at e
      cases e
      exact absurd rfl h2
    · exact z
  have nsK : ∀ {b : Addr} {m : Str → Option Value}, s₁.heap.Ns b m → (hidT s₁.heap (H0 K a vs ns cs)).Ns b m := fun {b m} ⟨o, es, ep, e, d, r⟩ =>
    ⟨o, es, ep, hidT_get e (free e (fun vs n z => by rw [d] at z; cases z) fun z => by rw [d] at z; cases z), d, r⟩
  have hKb : K.In (hidT s₁.heap (H0 K a vs ns cs)) := fun b o e => hidT_get (KX b o e) (by
    rcases hcase b with ⟨_, z, _⟩ | ⟨e', n, _⟩ | ⟨_, e', _⟩ | ⟨_, _, z⟩
    · exact z
    · rw [e', n] at e; cases e
    · obtain ⟨p, hp, ep⟩ := List.mem_map.mp e'
      rw [← ep, nT p hp] at e
      cases e
    · exact z)
  have hM : L2.Mod K mg (hidT s₁.heap (H0 K a vs ns cs)) := ⟨hKb, nsK hns, ⟨mb, nsK hb, hbb⟩, let ⟨mc, h1, h2⟩ := hlim; ⟨mc, nsK h1, h2⟩⟩
  have TB : ∀ p ∈ cs, LamX.TabB (hidT s₁.heap (H0 K a vs ns cs)) mg p.1 p.2 := fun p hp => by
    have hTp := hT p hp
    refine ⟨?_, ?_, fun z => ?_⟩
    · obtain ⟨o, us, file, tf, flags, tg, inF, text, tt, e1, r1, r2, r3, r⟩ := C p hp
      refine ⟨o, us, file, tf, flags, tg, inF, text, tt, hidT_get e1 (free e1 (fun vs n z => by rw [r2] at z; cases z) fun z => ?_), r1, r2, r3, r⟩
      rw [r2] at z
      cases z
      simp at r3
    · obtain ⟨bm, ob, b1, b2, b3, b4, b5, b6⟩ := hbm
      refine ⟨bm, ob, b1, b2, fun q => ?_, fun q => ?_, hidT_get b3 (free b3 (fun vs n z => by rw [b6] at z; cases z) fun z => by rw [b6] at z; cases z), b4, b5, b6⟩
      · obtain ⟨o, es, ep, e, hd, _⟩ := hns
        rw [q, e] at b3
        cases b3
        rw [hd] at b6
        cases b6
      · rw [q, hTp] at b3
        cases b3
        cases b6
    · obtain ⟨o, es, ep, e, hd, _⟩ := hns
      rw [z, hTp] at e
      cases e
      cases hd
  have hok : HOk P w (H0 K a vs ns cs) s₁.heap := fun b u z => by
    rcases hcase b with ⟨_, n, _⟩ | ⟨e', _, q⟩ | ⟨_, e', q⟩ | ⟨_, _, n⟩
    · rw [n] at z; cases z
    · rw [q] at z
      cases z
      rw [e']
      exact ⟨ha, by rw [List.length_map]; exact hl, vs, _, rv, ha⟩
    · rw [q] at z
      cases z
      exact isT b e'
    · rw [n] at z; cases z
  have hS : SqL K (H0 K a vs ns cs) a (ns.map V.int) := by
    rcases hcase a with ⟨_, _, hk⟩ | ⟨_, _, q⟩ | ⟨n, _⟩ | ⟨n, _⟩
    · obtain ⟨o, hk⟩ := Option.isSome_iff_exists.mp hk
      have e := KX a o hk
      rw [ha] at e
      cases e
      exact .inr ⟨_, vs.toArray, _, hk, rfl, rfl, rfl, by rw [List.size_toArray, lenV]; exact hl, by simpa using rv⟩
    · exact .inl (.inr ⟨_, q⟩)
    · exact absurd rfl n
    · exact absurd rfl n
  have e0 : Env0 P w K mg (hidT s₁.heap (H0 K a vs ns cs)) callerA [] s₁ (H0 K a vs ns cs) := ⟨rfl, hM, fun b o e => of_hidT e, Nat.le_of_eq (hidT_size _ _), trivial, fun b hb => absurd (show b ∈ ([] : List Addr) from hb) (by simp), hok, .of_eq hg⟩
  refine codeAny_mono ((F _ hKb (nsK hns) TB).run callerA [] s₁ (H0 K a vs ns cs) ⟨[.ref a], []⟩ [.ref a] [.ref a] _ _ hr rfl e0 (hbind s₁ [.ref a] KX rfl) (.cons rfl .nil) (hsp _ tabAt hS)) fun r s' h => ?_
  cases r with
  | error e => exact (show False from h).elim
  | ok fl =>
    cases fl with
    | next => exact False.elim h
    | brk => exact False.elim h
    | cont => exact False.elim h
    | ret u =>
      obtain ⟨v, H', os, bare, un, hok', r', q⟩ := h
      have q' : v = .bl true := q
      subst q'
      obtain rfl : u = Value.bool true := r'
      have key : ∀ b o, b ∉ cs.map (·.2) → s₁.heap.get? b = some o → s'.heap.get? b = some o := fun b o nb e => by
        rcases hcase b with ⟨_, n, _⟩ | ⟨_, _, z⟩ | ⟨_, e', _⟩ | ⟨_, _, n⟩
        · exact un.keep b o e n (fun z => absurd (show b ∈ ([] : List Addr) from z) (by simp)) (by simp)
        · have z2 := un.frzs b _ _ z
          obtain ⟨e1, _⟩ := hok b _ z
          obtain ⟨e2, _⟩ := hok' b _ z2
          rw [e] at e1
          cases e1
          exact e2
        · exact absurd e' nb
        · exact un.keep b o e n (fun z => absurd (show b ∈ ([] : List Addr) from z) (by simp)) (by simp)
      have grown : ∀ p ∈ cs, ∃ more : Array Value, s'.heap.get? p.2 = some { cls := .none, data := .fields more } := fun p hp => by
        obtain ⟨more, z⟩ := un.tbls p.2 #[] (tabAt p hp)
        exact ⟨_, hok' p.2 _ z⟩
      refine ⟨rfl, ⟨fun b o e => ?_, fun b o e => ?_⟩, os, bare⟩
      · by_cases hb : b ∈ cs.map (·.2)
        · obtain ⟨p, hp, ep⟩ := List.mem_map.mp hb
          obtain ⟨more, hm⟩ := grown p hp
          rw [← ep] at e ⊢
          rw [hT p hp] at e
          cases e
          exact .inr (.inl ⟨((C p hp).tab (hT p hp)).isCodeTable, rfl, #[], more, rfl, by rw [Array.empty_append]; exact hm⟩)
        · exact .inl (key b o hb e)
      · by_cases hb : b ∈ cs.map (·.2)
        · obtain ⟨p, hp, ep⟩ := List.mem_map.mp hb
          obtain ⟨more, hm⟩ := grown p hp
          rw [← ep]
          exact ⟨_, hm⟩
        · exact ⟨o, key b o hb e⟩
end L3
namespace L3
open PySem PySem.Spec PyProof.Rows L2
theorem same_upd {H : Hp} {p : Addr} {o : HO} (h : H p = none) : Same H (upd H p o) := fun b x e => by
  rw [upd_ne (ne_of_none e h)]
  exact e
theorem same_up {H H' : Hp} {p : Addr} {o : HO} (s : Same H H') (h : H p = none) : Same H (upd H' p o) := fun b x e => by
  rw [upd_ne (ne_of_none e h)]
  exact s b x e
/-- a comprehension: R of the heap, A of the list so far -/
theorem lc_gen {J : It} {n : Nat} {G : Hp → Prop} {Y : Nat → Hp → V → Hp → Prop} (w : Walk J n G Y) {g : TG} {tt : TT} {te : TE} {vs : List Nat} {σ : L2.St} {H1 : Hp} {D : Addr} {Qd : Hp → Prop} (R : Hp → Prop) (A : Nat → List V → Prop) (hz : n ≤ sizeLine) (hA : ∀ i acc, A i acc → acc.length ≤ i)
    (h0 : A 0 []) (r0 : R (upd H1 D (.lst []))) (r1 : ∀ H x, R H → R (upd H D x)) (hG : ∀ H, R H → G H)
    (hs : ∀ i x H H' acc (C : VK) (N : Hp → Prop), i < n → R H → H D = some (.lst acc) → A i acc → Y i H x H' → (∀ v H4, R H4 → H4 D = some (.lst acc) → A (i + 1) (acc ++ [v]) → C v H4) → (∀ H3, R H3 → H3 D = some (.lst acc) → A (i + 1) acc → N H3) →
      g x (wipe σ vs) H' fun σ2 H2 => wipe σ2 vs = wipe σ vs ∧ tt σ2 H2 fun b H3 => if b = true then te σ2 H3 C else N H3)
    (hd : ∀ H xs, R H → H D = some (.lst xs) → A n xs → Qd H) :
    ∃ W : Nat → Nat → Hp → Prop, (∃ m, W 0 m (upd H1 D (.lst []))) ∧ ∀ i m H, W i m H →
      (J.stop i H ∧ Qd H) ∨ (J.go i H ∧ ∃ Nx : Hp → Prop, (∀ H', Nx H' → ∃ m', m' < m ∧ W (i + 1) m' H') ∧ ∀ x H', J.yld i H x H' → g x (wipe σ vs) H' fun σ2 H2 => wipe σ2 vs = wipe σ vs ∧ tt σ2 H2 fun b H3 =>
        if b = true then te σ2 H3 fun y H4 => ∃ acc, H4 D = some (.lst acc) ∧ acc.length < sizeLine ∧ Nx (upd H4 D (.lst (acc ++ [y]))) else Nx H3) := by
  refine lc_it w (fun i H => R H ∧ ∃ acc, H D = some (.lst acc) ∧ A i acc) ⟨r0, [], upd_same, h0⟩ (fun i H _ p => hG H p.1) (fun i x H H' hi p y => ?_) fun H p => ?_
  · obtain ⟨rH, acc, hD, ha⟩ := p
    refine hs i x H H' acc _ _ hi rH hD ha y (fun v H4 r4 d4 a4 => ⟨acc, d4, ?_, r1 _ _ r4, _, upd_same, a4⟩) (fun H3 r3 d3 a3 => ⟨r3, acc, d3, a3⟩)
    have := hA i acc ha
    omega
  · obtain ⟨rH, acc, hD, ha⟩ := p
    exact hd H acc rH hD ha
/-- no test -/
theorem yes_te {te : TE} {σ : L2.St} {H : Hp} {C : VK} {N : Hp → Prop} (h : te σ H C) : tYes σ H fun b H3 => if b = true then te σ H3 C else N H3 := by
  show (if true = true then te σ H C else N H)
  rw [if_pos rfl]
  exact h
section
variable {X : Cx}
theorem call_lenT : CallR X (.builtin "len") (fun xs H Q => ∃ l, xs = [tx l] ∧ l.length ≤ sizeLine ∧ Q (.int (l.length : Int)) H) := by
  intro pins s σ H xs us Q I r h
  obtain ⟨l, rfl, hz, q⟩ := h
  exact call_len_str pins s σ H _ us Q I r ⟨_, rfl, by rw [tS_len]; exact hz, by rw [tS_len]; exact q⟩
theorem ix_tx : IxR X (fun x y H Q => ∃ (l : List Nat) (i c : Nat), x = tx l ∧ y = .int (i : Int) ∧ l.length ≤ sizeLine ∧ l[i]? = some c ∧ Q (tx [c]) H) := by
  intro value slice pins s σ H x y v u Q I rx ry h hs
  obtain ⟨l, i, c, rfl, rfl, hz, he, q⟩ := h
  exact ix_str value slice pins s σ H _ _ v u Q I rx ry ⟨_, _, c, rfl, rfl, by rw [tS_len]; exact hz, atI_nat he, q⟩ hs
end
theorem walk_tx {l : List Nat} : Walk (Its (tS l)) l.length (fun _ => True) (fun i H v H' => H' = H ∧ ∃ c, l[i]? = some c ∧ v = tx [c]) := by
  have e : (tS l).cps.size = l.length := tS_len l
  refine ⟨fun i _ hi _ => ?_, fun _ _ => ?_, fun i H v H' _ _ y => ?_⟩
  · show i < (tS l).cps.size
    rw [e]; exact hi
  · show (tS l).cps.size ≤ l.length
    rw [e]; exact Nat.le_refl _
  · obtain ⟨h1, c, h2, h3⟩ := y
    exact ⟨h1, c, by simpa [tS] using h2, h3⟩
end L3
namespace L3
open PySem PySem.Spec PyProof.Rows L2
/-- what repr asks of data -/
structure Shw (d : PyData) : Prop where
  s : d.showable = true
  z : d.shown.length ≤ sizeLine
  p : d.depth ≤ 50
def dTx (ls : List (List Nat)) : List PyData := ls.map fun l => PyData.str (tS l)
theorem dp_txs {K : PySem.W.Frag} {H : Hp} : ∀ ls : List (List Nat), DpAll K H (ls.map tx) (dTx ls)
  | [] => .nil
  | l :: ls => .cons (.str _) (dp_txs ls)
def k1 {α : Type} : List α → List α → List α
  | [], [w] => [w]
  | _, _ => []
def k2 {α : Type} : List α → List α → List α
  | [], [w, v] => [v, w]
  | _, _ => []
theorem k1_rel : ∀ {vs : List V} {us : List Value} {zs : List V} {ws : List Value}, Vals vs us → Vals zs ws → Vals (k1 vs zs) (k1 us ws)
  | _, _, _, _, .nil, .nil => .nil
  | _, _, _, _, .nil, .cons r .nil => .cons r .nil
  | _, _, _, _, .nil, .cons _ (.cons _ _) => .nil
  | _, _, _, _, .cons _ _, .nil => .nil
  | _, _, _, _, .cons _ _, .cons _ _ => .nil
/-- f(n = v) -/
theorem kb1 {K : PySem.W.Frag} {x n : Str} {st : Stmt} {f : Addr} {fd : FuncData} (F : Fun K x x st f fd)
    (h : ∀ (kV doc pm : Value) (an : Option Addr) (cdv ct w : Value), bindArgs (PySem.W.fnOf x x (defArgs st) (defBody st) (defScope st) .none kV doc pm an cdv ct) ⟨[], [(n, w)]⟩ = pure [(n, w)]) : KBinds K fd [n] [n] k1 k1 := by
  refine ⟨fun s us ws X hl => ?_, k1_rel⟩
  obtain ⟨oc, od, kV, doc, pm, an, cdv, ct, osl, rfl, lk, hcd⟩ := F.ex
  match us, ws, hl with
  | [], [w], _ => exact .of_eq (h kV doc pm an cdv ct w)
end L3
namespace L3
open PySem PySem.Spec PyProof.Rows L2
end L3
namespace L3
open PySem PySem.Spec PyProof.Rows L2
end L3
namespace L3
open PySem PySem.Spec PyProof.Rows L2
theorem sq_put {K : PySem.W.Frag} {a D : Addr} {xs : List V} {H : Hp} {o : HO} (h : SqL K H a xs) (n : a ≠ D) : SqL K (upd H D o) a xs := by
  rcases h with (h | ⟨o', h⟩) | h
  · exact .inl (.inl (by rw [upd_ne n]; exact h))
  · exact .inl (.inr ⟨o', by rw [upd_ne n]; exact h⟩)
  · exact .inr h
theorem sq_new {K : PySem.W.Frag} {a D : Addr} {xs : List V} {H : Hp} {o : HO} (h : SqL K H a xs) (n : H D = none) : SqL K (upd H D o) a xs := by
  rcases h with (h | ⟨o', h⟩) | h
  · exact .inl (.inl (same_upd n _ _ h))
  · exact .inl (.inr ⟨o', same_upd n _ _ h⟩)
  · exact .inr h
theorem sq_same {K : PySem.W.Frag} {a : Addr} {xs : List V} {H H' : Hp} (h : SqL K H a xs) (s : Same H H') : SqL K H' a xs := by
  rcases h with (h | ⟨o', h⟩) | h
  · exact .inl (.inl (s _ _ h))
  · exact .inl (.inr ⟨o', s _ _ h⟩)
  · exact .inr h
/-- what a statement's ends have in common -/
theorem join {t : TS} {D : Ends} {σ : L2.St} {H : Hp} (R : L2.St → Hp → Prop) (h : ∀ N : L2.St → Hp → Prop, (∀ σ' H', R σ' H' → N σ' H') → t { D with nx := N } σ H) (k : ∀ σ' H', R σ' H' → D.nx σ' H') : t D σ H := h D.nx k
/-- an if whose test comes out false -/
theorem if_no {tc : TT} {t u : TS} {D : Ends} {σ : L2.St} {H : Hp} (R : Hp → Prop) (hc : ∀ Q : Bool → Hp → Prop, (∀ H1, R H1 → Q false H1) → tc σ H Q) (k : ∀ H1, R H1 → u D σ H1) : tIfS tc t u D σ H :=
  hc _ fun H1 r => iteF (k H1 r)
theorem seq_to {t u : TS} {D : Ends} {σ : L2.St} {H : Hp} (h : t { D with nx := u D } σ H) : tSeq t u D σ H := h
end L3
namespace L3
open PySem PySem.Spec PyProof.Rows L2
/-- a comprehension: R of the heap, A of the list so far; R asked of heaps that hold the list -/
theorem lc_gen2 {J : It} {n : Nat} {G : Hp → Prop} {Y : Nat → Hp → V → Hp → Prop} (w : Walk J n G Y) {g : TG} {tt : TT} {te : TE} {vs : List Nat} {σ : L2.St} {H1 : Hp} {D : Addr} {Qd : Hp → Prop} (R : Hp → Prop) (A : Nat → List V → Prop) (hz : n ≤ sizeLine) (hA : ∀ i acc, A i acc → acc.length ≤ i)
    (h0 : A 0 []) (r0 : R (upd H1 D (.lst []))) (r1 : ∀ H acc acc', H D = some (.lst acc) → R H → R (upd H D (.lst acc'))) (hG : ∀ H, R H → G H)
    (hs : ∀ i x H H' acc (C : VK) (N : Hp → Prop), i < n → R H → H D = some (.lst acc) → A i acc → Y i H x H' → (∀ v H4, R H4 → H4 D = some (.lst acc) → A (i + 1) (acc ++ [v]) → C v H4) → (∀ H3, R H3 → H3 D = some (.lst acc) → A (i + 1) acc → N H3) →
      g x (wipe σ vs) H' fun σ2 H2 => wipe σ2 vs = wipe σ vs ∧ tt σ2 H2 fun b H3 => if b = true then te σ2 H3 C else N H3)
    (hd : ∀ H xs, R H → H D = some (.lst xs) → A n xs → Qd H) :
    ∃ W : Nat → Nat → Hp → Prop, (∃ m, W 0 m (upd H1 D (.lst []))) ∧ ∀ i m H, W i m H →
      (J.stop i H ∧ Qd H) ∨ (J.go i H ∧ ∃ Nx : Hp → Prop, (∀ H', Nx H' → ∃ m', m' < m ∧ W (i + 1) m' H') ∧ ∀ x H', J.yld i H x H' → g x (wipe σ vs) H' fun σ2 H2 => wipe σ2 vs = wipe σ vs ∧ tt σ2 H2 fun b H3 =>
        if b = true then te σ2 H3 fun y H4 => ∃ acc, H4 D = some (.lst acc) ∧ acc.length < sizeLine ∧ Nx (upd H4 D (.lst (acc ++ [y]))) else Nx H3) := by
  refine lc_it w (fun i H => R H ∧ ∃ acc, H D = some (.lst acc) ∧ A i acc) ⟨r0, [], upd_same, h0⟩ (fun i H _ p => hG H p.1) (fun i x H H' hi p y => ?_) fun H p => ?_
  · obtain ⟨rH, acc, hD, ha⟩ := p
    refine hs i x H H' acc _ _ hi rH hD ha y (fun v H4 r4 d4 a4 => ⟨acc, d4, ?_, r1 _ _ _ d4 r4, _, upd_same, a4⟩) (fun H3 r3 d3 a3 => ⟨r3, acc, d3, a3⟩)
    have := hA i acc ha
    omega
  · obtain ⟨rH, acc, hD, ha⟩ := p
    exact hd H acc rH hD ha
end L3
namespace L3
open PySem PySem.Spec PyProof.Rows L2
/-- an element that is a text, with the hash that the world gives it -/
def GoodT (w : World) (e : Int × Value) : Prop := ∃ l tk, e.2 = Value.str (tS l) tk ∧ e.1 = hashStr w (tS l)
def txtOf (e : Int × Value) : List Nat := match e.2 with | .str x _ => x.cps.toList | _ => []
theorem txt_tS (l : List Nat) (h : Int) (tk : Tok) : txtOf (h, Value.str (tS l) tk) = l := by simp [txtOf, tS]
theorem tS_txt (x : Str) : tS x.cps.toList = x := by cases x; simp [tS]
/-- the object at a is a set of the texts L -/
def SetT (w : World) (h : Heap) (a : Addr) (L : List (List Nat)) : Prop :=
  ∃ o es ep t, h.get? a = some o ∧ o.ExactSet ∧ o.data = .set es ep t ∧ (∀ e ∈ es.toList, GoodT w e) ∧ (es.toList.map txtOf).Perm L ∧ L.Nodup ∧
    es.size < scanBound ∧ t.fits es.size = true ∧ Ris t.place.toList ∧ (w.params.followText "set-order" = true ∨ t.led = true)
section
variable {P : Program} {w : World} {A : Around} {E : Value → Shared → Prop} {s : Shared} {a : Addr} {L : List (List Nat)}
theorem SetT.at {h h' : Heap} (R : SetT w h a L) (k : ∀ o, h.get? a = some o → h'.get? a = some o) : SetT w h' a L := by
  obtain ⟨o, es, ep, t, ho, r⟩ := R
  exact ⟨o, es, ep, t, k o ho, r⟩
theorem goodT_elems {l : List (Int × Value)} (g : ∀ e ∈ l, GoodT w e) : ElemsOf (PySem.strKind P w) l := fun e he => by
  obtain ⟨x, tk, h1, h2⟩ := g e he
  exact ⟨⟨tS x, by rw [h1]; exact strKind_is P w _ _, h2⟩, by rw [h1]; rfl⟩
theorem goodT_is {e : Int × Value} (g : GoodT w e) (l : List Nat) : (PySem.strKind P w).is (tS l) e.2 = true ↔ txtOf e = l := by
  obtain ⟨x, tk, h1, h2⟩ := g
  have e1 : txtOf e = x := by unfold txtOf; rw [h1]
  rw [e1, h1]
  show Value.isStrOf (tS l) (Value.str (tS x) tk) = true ↔ _
  constructor
  · intro h
    obtain ⟨u, hu⟩ := Value.isStrOf_shape h
    injection hu with hx
    have := congrArg (fun z : Str => z.cps.toList) hx
    simpa [tS] using this
  · rintro rfl
    exact strKind_is P w (tS _) tk
theorem setT_tail {g : Bool → Sem Unit} (hg : ∀ (b : Bool) (s₁ : Shared) (Q' : Unit → Shared → Prop), Q' () s₁ → wpAny (model P w) A (g b) Q' E s₁)
    {o : Obj} {es : Array (Int × Value)} {ep : Nat} {t : SetTable} (ho : s.heap.get? a = some o) (hex : o.ExactSet) (hd : o.data = .set es ep t)
    {es1 : Array (Int × Value)} {t2 : SetTable} {L' : List (List Nat)} (g1 : ∀ e ∈ es1.toList, GoodT w e) (p1 : (es1.toList.map txtOf).Perm L') (nd : L'.Nodup)
    (hb1 : es1.size < scanBound) (hf2 : t2.fits es1.size = true) (hr : Ris t2.place.toList) (hl : w.params.followText "set-order" = true ∨ t2.led = true) {wasDummy : Bool} {R : Option Bool → Shared → Prop}
    (hR : ∀ h', Heap.SameBut a s.heap h' → SetT w h' a L' → R (some true) { s with heap := h' }) :
    wpAny (model P w) A (do
        storeSet a es1 t2
        if (!wasDummy && t2.tooFull) = true then do
            g (relayAll t2 es1 (SetTable.grown es1.size)).2.2
            storeSet a (relayAll t2 es1 (SetTable.grown es1.size)).1 (relayAll t2 es1 (SetTable.grown es1.size)).2.1
            pure (some true)
          else pure (some true)) R E s := by
  refine wpAny_bind (wpAny_storeSet_of ho hd ?_ (fits_of_scanBound hb1))
  have q1 := store_at (es' := es1) (t' := t2) ho hd
  have sb := Heap.SameBut.update s.heap a (Obj.putSet es1 t2)
  split
  · have pm := relayAll_perm t2 es1 (SetTable.grown es1.size)
    have f3 := relayAll_fits t2 es1 (SetTable.grown es1.size)
    have r3 := relayAll_ris t2 es1 (SetTable.grown es1.size)
    have l3 := relayAll_led t2 es1 (SetTable.grown es1.size)
    generalize relayAll t2 es1 (SetTable.grown es1.size) = Z at pm f3 r3 l3 ⊢
    obtain ⟨es2, t3, gv⟩ := Z
    dsimp only at pm f3 r3 l3 ⊢
    have sz : es2.size = es1.size := by rw [← Array.length_toList, pm.length_eq, Array.length_toList]
    refine wpAny_bind (hg _ _ _ ?_)
    refine wpAny_bind (wpAny_storeSet_of q1 rfl ?_ (fits_of_scanBound (by rw [sz]; exact hb1)))
    refine wpAny_pure (hR _ (sb.trans (Heap.SameBut.update _ a _)) ⟨_, es2, _, t3, store_at (es' := es2) (t' := t3) q1 rfl, hex, rfl, fun e he => g1 e (pm.mem_iff.mp he), (pm.map txtOf).trans p1, nd, by rw [sz]; exact hb1, f3, r3, ?_⟩)
    rcases hl with z | z
    · exact .inl z
    · exact .inr (by rw [l3]; exact z)
  · exact wpAny_pure (hR _ sb ⟨_, es1, _, t2, q1, hex, rfl, g1, p1, nd, hb1, hf2, hr, hl⟩)
theorem setT_add {l : List Nat} {tk : Tok} {Q : Bool → Shared → Prop} (R : SetT w s.heap a L) (room : L.length + 1 < scanBound)
    (hQ : ∀ b h', Heap.SameBut a s.heap h' → SetT w h' a (if l ∈ L then L else L ++ [l]) → Q b { s with heap := h' }) :
    wpAny (model P w) A (setAddHashed a (.str (tS l) tk) ((PySem.strKind P w).hash (tS l))) Q E s := by
  obtain ⟨o, es, ep, t, ho, hex, hd, g, pL, nd, hb, hf, hr, hl⟩ := R
  have hkey : (PySem.strKind P w).is (tS l) (.str (tS l) tk) = true := strKind_is P w _ tk
  have hel : ElemsOf (PySem.strKind P w) es.toList := goodT_elems g
  have hn : es.size = L.length := by rw [← Array.length_toList, ← pL.length_eq, List.length_map]
  unfold setAddHashed setAddHashedIn
  refine wpAny_holding (wpAny_bind (wpAny_setState_of ho hd hf ?_))
  dsimp only
  rw [byScan_of (knd := PySem.strKind P w) rfl hb hel]
  simp only [↓reduceIte]
  unfold setAddByScan
  refine wpAny_bind ?_
  refine wpAny_bind (wpAny_rule ?_)
  refine wpAny_bind (wpAny_setScan_of hkey ho hd hf hel ?_)
  cases hfi : List.findIdx? (fun e => (PySem.strKind P w).is (tS l) e.2) es.toList with
  | some j =>
    dsimp only
    obtain ⟨hj, pj, _⟩ := List.findIdx?_eq_some_iff_getElem.mp hfi
    have hm : l ∈ L := pL.mem_iff.mp (List.mem_map.mpr ⟨_, List.getElem_mem hj, (goodT_is (P := P) (g _ (List.getElem_mem hj)) l).mp pj⟩)
    refine wpAny_pure (wpAny_pure ?_)
    have q := hQ false s.heap (Heap.SameBut.refl a s.heap) (by rw [if_pos hm]; exact ⟨o, es, ep, t, ho, hex, hd, g, pL, nd, hb, hf, hr, hl⟩)
    exact q
  | none =>
    dsimp only
    have hm : l ∉ L := fun z => by
      obtain ⟨e, he, q⟩ := List.mem_map.mp (pL.mem_iff.mpr z)
      have c := List.findIdx?_eq_none_iff.mp hfi e he
      rw [(goodT_is (P := P) (g e he) l).mpr q] at c
      cases c
    have hgw : ∀ (b : Bool) {s₁ : Shared} {Q' : Unit → Shared → Prop}, Q' () s₁ → wpAny (model P w) A (match b with | true => rule "set.scan.the-table-gave-way" | false => pure ()) Q' E s₁ :=
      fun b s₁ Q' q => by cases b <;> first | exact wpAny_pure q | exact wpAny_rule q
    have pm := layNew_perm t es ((PySem.strKind P w).hash (tS l)) (.str (tS l) tk)
    have hf1 := layNew_fits t es ((PySem.strKind P w).hash (tS l)) (.str (tS l) tk)
    have hr1 := layNew_ris t es ((PySem.strKind P w).hash (tS l)) (.str (tS l) tk) hr
    have hl1 := layNew_led t es ((PySem.strKind P w).hash (tS l)) (.str (tS l) tk)
    generalize layNew t es ((PySem.strKind P w).hash (tS l)) (.str (tS l) tk) = Z at pm hf1 hr1 hl1 ⊢
    obtain ⟨es1, t1, wd, gv⟩ := Z
    dsimp only at pm hf1 hr1 hl1 ⊢
    rw [Array.toList_push] at pm
    have g1 : ∀ e ∈ es1.toList, GoodT w e := fun e he => by
      rcases List.mem_append.mp (pm.mem_iff.mp he) with z | z
      · exact g e z
      · rw [List.mem_singleton.mp z]; exact ⟨l, tk, rfl, rfl⟩
    have p1 : (es1.toList.map txtOf).Perm (L ++ [l]) := by
      refine (pm.map txtOf).trans ?_
      rw [List.map_append, List.map_cons, List.map_nil, txt_tS]
      exact pL.append_right _
    have nd1 : (L ++ [l]).Nodup := by
      rw [List.nodup_append]
      refine ⟨nd, by simp, fun x hx y hy => ?_⟩
      rw [List.mem_singleton.mp hy]
      exact fun z => hm (z ▸ hx)
    have hsz : es1.size = L.length + 1 := by rw [← Array.length_toList, pm.length_eq, List.length_append, Array.length_toList, hn]; rfl
    have hb1 : es1.size < scanBound := by rw [hsz]; exact room
    have hled : w.params.followText "set-order" = true ∨ t1.led = true := by
      rcases hl with z | z
      · exact .inl z
      · exact .inr (by rw [hl1]; exact z)
    have fin : ∀ h', Heap.SameBut a s.heap h' → SetT w h' a (L ++ [l]) → Q true { s with heap := h' } := fun h' sb r => hQ true h' sb (by rw [if_neg hm]; exact r)
    refine wpAny_bind (hgw _ ?_)
    split
    · refine wpAny_bind ?_
      rw [hashByValue_scannable 8 rfl]
      refine wpAny_pure ?_
      refine setT_tail ?_ ho hex hd g1 p1 nd1 hb1 ?_ ?_ ?_ ?_
      · intro b s₁ Q' q; cases b <;> first | exact wpAny_pure q | exact wpAny_rule q
      · first | (split <;> first | exact hf1 | exact SetTable.fits_plain_off hf1) | exact hf1
      · first | (split <;> exact hr1) | exact hr1
      · first | (split <;> exact hled) | exact hled
      · intro h' sb r; dsimp only; exact wpAny_pure (fin h' sb r)
    · refine wpAny_bind (wpAny_pure ?_)
      simp only [↓reduceIte]
      refine setT_tail ?_ ho hex hd g1 p1 nd1 hb1 hf1 hr1 hled ?_
      · intro b s₁ Q' q; cases b <;> first | exact wpAny_pure q | exact wpAny_rule q
      · intro h' sb r; dsimp only; exact wpAny_pure (fin h' sb r)
end
end L3
namespace L3
open PySem PySem.Spec PyProof.Rows L2
/-- the first ones, each once -/
def ded (val : Nat → List Nat) : Nat → List (List Nat)
  | 0 => []
  | i + 1 => if val i ∈ ded val i then ded val i else ded val i ++ [val i]
theorem ded_len (val : Nat → List Nat) : ∀ i, (ded val i).length ≤ i
  | 0 => Nat.le_refl _
  | i + 1 => by
    have := ded_len val i
    unfold ded
    split
    · omega
    · rw [List.length_append]
      exact Nat.succ_le_succ this
theorem ded_mem (val : Nat → List Nat) (l : List Nat) : ∀ i, l ∈ ded val i ↔ ∃ j, j < i ∧ val j = l
  | 0 => by simp [ded]
  | i + 1 => by
    have ih := ded_mem val l i
    unfold ded
    split
    · rename_i h
      rw [ih]
      refine ⟨fun ⟨j, h1, h2⟩ => ⟨j, by omega, h2⟩, fun ⟨j, h1, h2⟩ => ?_⟩
      by_cases e : j = i
      · subst e
        rw [h2] at h
        exact ih.mp h
      · exact ⟨j, by omega, h2⟩
    · rw [List.mem_append, ih, List.mem_singleton]
      constructor
      · rintro (⟨j, h1, h2⟩ | h)
        · exact ⟨j, by omega, h2⟩
        · exact ⟨i, by omega, h.symm⟩
      · rintro ⟨j, h1, h2⟩
        by_cases e : j = i
        · exact .inr (by rw [← h2, e])
        · exact .inl ⟨j, by omega, h2⟩
section
variable {prog : Program} {w : World} {A : Around} {R : Result → Shared → Prop} {I : Addr} {fp wr : List Addr} {G : Array GenState → Array GenState → Prop} {n : Nat} {P : Nat → Value → Prop} {St : Nat → Shared → Prop}
theorem set_loopT (W : WalksS prog w A.in1 I fp wr G n P St) (S : Addr) (hSf : S ∉ fp) (val : Nat → List Nat) (hval : ∀ i v, P i v → ∃ t, v = Value.str (tS (val i)) t) (hb : n + 1 < scanBound) :
    ∀ (k i : Nat) (s : Shared), n - i = k → i ≤ n → St i s → SetT w s.heap S (ded val i) →
      (∀ s', Moved (S :: wr) G s s' → SetT w s'.heap S (ded val n) → R (.ok (.ret .none)) s') →
      codeAny (model prog w) A (.builtin "set.update.loop" ⟨[.ref S, .ref I], []⟩) R s := by
  have hSw : S ∉ wr := fun h => hSf (W.sub _ h)
  have sub : ∀ b ∈ wr, b ∈ S :: wr := fun b hb => List.mem_cons_of_mem _ hb
  intro k
  induction k with
  | zero =>
    intro i s hk hi hst hS hR
    obtain rfl : i = n := by omega
    refine codeAny_builtin PyProof.Rows.F.entry_set_update_loop ?_
    rw [Around.under_plainId PyProof.Rows.F.plain_set_update_loop _]
    show wpAny _ A.in1 (pyNext (.ref I) >>= _) _ _ s
    refine wpAny_bind (W.done s _ _ hst fun s' hm => ?_)
    show wpAny _ A.in1 (ret Value.none) _ _ s'
    exact wpAny_pure (hR s' (hm.mono sub) (hS.at fun o ho => hm.heap S _ hSw ho))
  | succ k ih =>
    intro i s hk hi hst hS hR
    have hlt : i < n := by omega
    refine codeAny_builtin PyProof.Rows.F.entry_set_update_loop ?_
    rw [Around.under_plainId PyProof.Rows.F.plain_set_update_loop _]
    show wpAny _ A.in1 (pyNext (.ref I) >>= _) _ _ s
    refine wpAny_bind (W.item i s _ _ hlt hst fun v s' hP hst' hm => ?_)
    obtain ⟨t, rfl⟩ := hval i v hP
    have hS' : SetT w s'.heap S (ded val i) := hS.at fun o ho => hm.heap S _ hSw ho
    show wpAny _ A.in1 (holding [Value.str (tS (val i)) t] (setAdd S (.str (tS (val i)) t)) >>= _) _ _ s'
    refine wpAny_bind (wpAny_holding ?_)
    unfold setAdd
    refine wpAny_holding ?_
    refine wpAny_bind ((PySem.strKind prog w).pyHash (k := tS (val i)) (strKind_is prog w _ t) ?_)
    have room : (ded val i).length + 1 < scanBound := by have := ded_len val i; omega
    refine setT_add (P := prog) (s := { s' with toks := s'.toks + 1 }) hS' room fun b h' sb hS2 => ?_
    refine wpAny_pure ⟨plainId_quiet PyProof.Rows.F.plain_set_update_loop _, ih (i + 1) _ (by omega) hlt (W.frame _ s' _ _ hst' (Nat.le_succ _) fun b hb o e => ?_) hS2 fun s'' hm'' hS'' => ?_⟩
    · rw [sb.2 b (fun h : b = S => hSf (by rw [← h]; exact hb))]; exact e
    · refine hR s'' (Moved.trans W.gtrans ((hm.mono sub).then_heap (Nat.le_succ _) fun b o hb e => ?_) hm'') hS''
      rw [sb.2 b (fun h : b = S => hb (by rw [h]; exact List.mem_cons_self))]; exact e
end
section
variable {P : Program} {w : World} {A : Around} {E : Value → Shared → Prop} {s : Shared}
theorem code_set_led1 (a : Value) {Q₁ : Value → Shared → Prop}
    (h : Q₁ (.ref s.heap.objs.size) { s with heap := s.heap.push { cls := .type "set", dict := none, data := .set #[] 0 (.fresh 0 0 (!w.params.followText "set-order")) } }) :
    codeAny (model P w) A (.call (.builtin "set.__new__") ⟨[.type "set", a], []⟩) (wants Q₁ E) s := by
  refine codeAny_of_tree ?_
  show wpAny _ A.in1 (do checkBuiltinCall "set.__new__" ⟨[.type "set", a], []⟩; again (.builtin "set.__new__" ⟨[.type "set", a], []⟩)) _ _ s
  refine wpAny_bind (wpAny_of_eq (PySem.F.newCall_set_1 a) (wpAny_pure ⟨plainId_quiet PySem.F.plain_set_new _, codeAny_builtin PySem.F.entry_set_new ?_⟩))
  rw [Around.under_plainId PySem.F.plain_set_new _]
  unfold Builtin.«set.__new__» Builtin.Frozenset.newClass
  have hsub := sub_set_self
  obtain ⟨hp, g, d, tk, os⟩ := s
  dsimp only
  wp_walk
  refine wpAny_askSetting (wpAny_pure ?_)
  dsimp only
  simp only [newObj]
  refine wpAny_bind (wpAny_alloc (wpAny_pure ?_))
  exact wpAny_pure h
theorem setT_fresh {h : Heap} (w : World) : SetT w (h.push { cls := .type "set", dict := none, data := .set #[] 0 (.fresh 0 0 (!w.params.followText "set-order")) }) h.objs.size [] := by
  refine ⟨_, #[], 0, _, Heap.get?_push_size _ rfl, ⟨rfl, rfl, rfl⟩, rfl, (fun e he => by simp at he), .refl _, List.nodup_nil, by decide, rfl, List.Pairwise.nil, ?_⟩
  show _ ∨ (!w.params.followText "set-order") = true
  cases w.params.followText "set-order"
  · exact .inr rfl
  · exact .inl rfl
end
end L3
namespace L3
open PySem PySem.Spec PyProof.Rows L2
theorem sub_str_set : isSubtype (.type "str") (.type "set") = pure false := by rw [isSubtype_type]; kernel_rfl
theorem sub_str_frozenset : isSubtype (.type "str") (.type "frozenset") = pure false := by rw [isSubtype_type]; kernel_rfl
section
variable {P : Program} {w : World} {A : Around} {E : Value → Shared → Prop} {s : Shared}
set_option maxHeartbeats 8000000 in
/-- set(text) -/
theorem call_set_text {x : List Nat} {tx0 : Tok} {Q : Value → Shared → Prop} (hh : A.handled = none) (hb : x.length + 1 < scanBound)
    (h : ∀ (h' : Heap) (tk : Nat), SetT w h' s.heap.objs.size (ded (fun i => [x.getD i 0]) x.length) →
      (∀ b o, b < s.heap.objs.size → s.heap.get? b = some o → h'.get? b = some o) → Q (.ref s.heap.objs.size) { s with heap := h', toks := tk }) :
    wpAny (model P w) A (call (.type "set") [.str (tS x) tx0]) Q E s := by
  obtain ⟨c, tl, hmro⟩ := PySem.F.called_set.mro
  have hmade := PySem.F.called_set.made
  have hsub := PySem.F.called_set.sub
  refine wpAny_call (codeAny_of_tree ?_)
  show wpAny _ _ (callAny (.type "set") _) _ _ _
  refine wpAny_pure ⟨Code.quiet_builtin _ (by decide +kernel), codeAny_builtin PySem.F.entry_type_call ?_⟩
  rw [Around.under_plain (weight_type_call_type "set" [.str (tS x) tx0] []) rfl]
  have h1 := PySem.F.called_set.notType
  have h2 := PySem.F.called_set.canCreate
  have hct := PySem.F.typeCall_set_1 (.str (tS x) tx0)
  repeat (any_goals (first | assumption | wp_step))
  refine codeAny_mono (code_set_led1 (.str (tS x) tx0) (E := E) (Q₁ := fun obj s₁ => obj = .ref s.heap.objs.size ∧ s₁ = { s with heap := s.heap.push { cls := .type "set", dict := none, data := .set #[] 0 (.fresh 0 0 (!w.params.followText "set-order")) } }) ⟨rfl, rfl⟩) fun r s₁ hr => ?_
  cases r with
  | error e => exact hr
  | ok fl =>
    cases fl with
    | ret obj =>
      obtain ⟨rfl, rfl⟩ := hr
      have hS : (s.heap.push { cls := .type "set", dict := none, data := .set #[] 0 (.fresh 0 0 (!w.params.followText "set-order")) }).get? s.heap.objs.size = some { cls := .type "set", dict := none, data := .set #[] 0 (.fresh 0 0 (!w.params.followText "set-order")) } := Heap.get?_push_size _ rfl
      have hT : Shared.TypeIs { s with heap := s.heap.push { cls := .type "set", dict := none, data := .set #[] 0 (.fresh 0 0 (!w.params.followText "set-order")) } } (.ref s.heap.objs.size) "set" := ⟨_, hS, rfl⟩
      have hli := PySem.F.called_set.init.lookup
      have hbi := PySem.F.called_set.init.bind (.ref s.heap.objs.size)
      repeat (any_goals (first | assumption | wp_step))
      refine codeAny_mono (codeAny_call_builtin (R := wants (fun r s₂ => r = .none ∧ ∃ h' tk, s₂ = { s with heap := h', toks := tk } ∧ SetT w h' s.heap.objs.size (ded (fun i => [x.getD i 0]) x.length) ∧
          (∀ b o, b < s.heap.objs.size → s.heap.get? b = some o → h'.get? b = some o)) E) PySem.F.called_set.init.plain PySem.F.entry_set_init (PySem.check_set_init_1 hT ?_)) fun r₂ s₂ hr₂ => ?_
      · have hsls := sub_str_set
        have hslf := sub_str_frozenset
        have hne : (Value.type "str" == Value.type "dict") = false := by decide
        unfold Builtin.«set.__init__» noKeywords Builtin.Frozenset.updateFrom
        generalize hPI : pyIter = PI
        wp_walk
        subst hPI
        refine wpAny_pyIter_str fun oi St hW hst => ?_
        refine wpAny_bind (wpAny_runValue ?_)
        have hh3 : A.in1.in1.in1.handled = none := by simp [hh]
        have hsz : (s.heap.push { cls := .type "set", dict := none, data := .set #[] 0 (.fresh 0 0 (!w.params.followText "set-order")) }).objs.size = s.heap.objs.size + 1 := Heap.size_push _ _
        have hSf : s.heap.objs.size ∉ [(s.heap.push { cls := .type "set", dict := none, data := .set #[] 0 (.fresh 0 0 (!w.params.followText "set-order")) }).objs.size] := by
          rw [hsz]
          simp
        have hn : (tS x).cps.size = x.length := tS_len x
        have hval : ∀ (i : Nat) (v : Value), SignAt (tS x) i v → ∃ t, v = Value.str (tS [x.getD i 0]) t := fun i v hv => by
          obtain ⟨c, u, hc, rfl⟩ := hv
          have hc' : x[i]? = some c := by simpa [tS] using hc
          refine ⟨u, ?_⟩
          rw [List.getD_eq_getElem?_getD, hc']
          rfl
        refine set_loopT ((hW _ hh3).toS) s.heap.objs.size hSf (fun i => [x.getD i 0]) hval (by rw [hn]; exact hb) _ 0 _ rfl (Nat.zero_le _) hst ((setT_fresh w).at fun o ho => Heap.get?_push_of_some _ ho) fun s' hm hS' => ?_
        obtain ⟨h', g', d', tk', os'⟩ := s'
        have eg : g' = s.gens := hm.gens
        have ed : d' = s.drawn := hm.drawn
        have eo : os' = s.os := hm.os
        subst eg ed eo
        rw [hn] at hS'
        show wpAny _ _ _ _ _ _
        refine wpAny_pure ?_
        show wpAny _ _ (ret Value.none) _ _ _
        refine wpAny_pure ⟨rfl, h', tk', rfl, hS', fun b o hb e => ?_⟩
        refine hm.heap b o (fun z => ?_) (Heap.get?_push_of_some _ (Heap.get?_push_of_some _ e))
        simp only [List.mem_cons, List.not_mem_nil, or_false] at z
        rcases z with z | z
        · exact absurd z (Nat.ne_of_lt hb)
        · rw [hsz] at z
          exact absurd z (Nat.ne_of_lt (Nat.lt_succ_of_lt hb))
      · cases r₂ with
        | error e => exact hr₂
        | ok fl₂ =>
          cases fl₂ with
          | ret r =>
            obtain ⟨rfl, h', tk, rfl, hS', hk'⟩ := hr₂
            repeat (any_goals (first | assumption | wp_step))
            exact h _ _ hS' hk'
          | _ => exact hr₂.elim
    | _ => exact hr.elim
end
end L3
namespace L3
open PySem PySem.Spec PyProof.Rows L2
def sVal (v : Value) : Str := match v with | .str x _ => x | _ => Str.empty
theorem strs_of : ∀ (l : List Value), (∀ v ∈ l, ∃ k tk, v = Value.str k tk) → StrsAre l (l.map sVal)
  | [], _ => .nil
  | v :: l, h => by
    obtain ⟨k, tk, rfl⟩ := h v List.mem_cons_self
    exact .cons k tk (strs_of l fun u hu => h u (List.mem_cons_of_mem _ hu))
section
variable {P : Program} {w : World} {A : Around} {E : Value → Shared → Prop} {s : Shared} {a : Addr} {L : List (List Nat)}
theorem sorted_setX {Q : Value → Shared → Prop} (R : SetT w s.heap a L) (hh : A.handled = none)
    (hQ : ∀ s' p (out : Array Value) (c : Nat) (ss : List Str), (∀ b o, s.heap.get? b = some o → s'.heap.get? b = some o) → s'.gens = s.gens → s'.os = s.os → s.heap.objs.size ≤ p →
      s'.heap.get? p = some (seqObj "list" out c) → StrsAre out.toList ss → ss.Perm (L.map tS) → sortedS ss = true → Q (.ref p) s') :
    wpAny (model P w) A (call (.builtin "sorted") [.ref a]) Q E s := by
  obtain ⟨o, es, ep, t, ho, hex, hd, g, pL, nd, hb, hf, hr, hl⟩ := R
  refine Calls.call_function_entry kind_sorted plain_sorted entry_sorted (args_sorted1 _) ?_
  unfold Builtin.«sorted»
  refine wpAny_bind (m := checkCount "sorted" 1 1 _) (wpAny_pure ?_)
  refine wpAny_bind (collect_set (A := A.in1) hh ⟨o, ho, hex.1, hd⟩ hf hb hr hl fun s1 vs k1 hz g1 o1 pm => ?_)
  have hvl : vs.length = es.size := by rw [pm.length_eq, List.length_map, Array.length_toList]
  have hS : StrsAre vs (vs.map sVal) := strs_of vs fun v hv => by
    obtain ⟨e, he, q⟩ := List.mem_map.mp (pm.mem_iff.mp hv)
    obtain ⟨x, tk, h1, _⟩ := g e he
    exact ⟨tS x, tk, by rw [← q]; exact h1⟩
  have pk : (vs.map sVal).Perm (L.map tS) := by
    refine (pm.map sVal).trans ?_
    rw [List.map_map]
    have e1 : es.toList.map (sVal ∘ fun x => x.2) = (es.toList.map txtOf).map tS := by
      rw [List.map_map]
      refine List.map_congr_left fun e he => ?_
      obtain ⟨x, tk, h1, _⟩ := g e he
      show sVal e.2 = tS (txtOf e)
      unfold txtOf
      rw [h1]
      show tS x = tS (tS x).cps.toList
      rw [tS_txt]
    rw [e1]
    exact pL.map tS
  have hL : vs.length ≤ sizeLine := by rw [hvl]; exact fits_of_scanBound hb
  refine wpAny_bind (wpAny_newList ?_ hL)
  have hoL : (s1.heap.push (seqObj "list" vs.toArray 0)).get? s1.heap.objs.size = some (seqObj "list" vs.toArray 0) := Heap.get?_push_size _ rfl
  refine wpAny_bind (wpAny_holding (wpAny_call_entry slot_list_sort ⟨_, hoL, rfl⟩ entry_list_sort (list_sort_treeKAny strKind_oneLt hoL hS.keysOf (fun v₁ v₂ rest e => keyKind_strs (by rw [← e]; exact hS)) hL fun st' hp hs => ⟨_, rfl, ?_⟩) (args_list_sort _)))
  obtain ⟨ss', a1, a2, a3⟩ := sorted_out_str hS hp hs
  obtain ⟨c, hc⟩ := sortedHeap_at (vs := vs) (out := (arrOf st').map (·.2)) hoL
  refine wpAny_pure ⟨_, rfl, hQ _ s1.heap.objs.size _ c ss' (fun b u e => ?_) g1 o1 hz hc a1 (a2.trans pk) a3⟩
  have q := k1 b u e
  have hlt := Heap.lt_size q
  show (sortedHeap (s1.heap.push (seqObj "list" vs.toArray 0)) s1.heap.objs.size vs _).get? b = some u
  rw [sortedHeap_old (Nat.ne_of_lt hlt) (by rw [size_push']; exact Nat.lt_succ_of_lt hlt)]
  exact Heap.get?_push_of_some _ q
end
end L3
namespace L3
open PySem PySem.Spec PyProof.Rows L2
/-- the set of the texts L at a -/
def TSet (w : World) (a : Addr) (L : List (List Nat)) : HO := .ext fun h => SetT w h a L
/-- the letters of a text, each once -/
def lets (l : List Nat) : List (List Nat) := ded (fun i => [l.getD i 0]) l.length
theorem lets_mem {l x : List Nat} : x ∈ lets l ↔ ∃ c, c ∈ l ∧ x = [c] := by
  unfold lets
  rw [ded_mem]
  constructor
  · rintro ⟨j, hj, rfl⟩
    refine ⟨l.getD j 0, ?_, rfl⟩
    rw [List.getD_eq_getElem?_getD, List.getElem?_eq_getElem hj]
    exact List.getElem_mem hj
  · rintro ⟨c, hc, rfl⟩
    obtain ⟨j, hj, rfl⟩ := List.getElem_of_mem hc
    exact ⟨j, hj, by rw [List.getD_eq_getElem?_getD, List.getElem?_eq_getElem hj]; rfl⟩
theorem rising_pair : ∀ (ss : List Str) (p : Str), risingS p ss = true → (p :: ss).Pairwise fun a b => ¬ b.cps.toList < a.cps.toList
  | [], p, _ => by simp
  | x :: ss, p, h => by
    have h : (!ltCps x.cps.toList p.cps.toList && risingS x ss) = true := h
    rw [Bool.and_eq_true, Bool.not_eq_true', ltCps_eq, decide_eq_false_iff_not] at h
    have ih := rising_pair ss x h.2
    refine List.pairwise_cons.mpr ⟨fun y hy => ?_, ih⟩
    rcases List.mem_cons.mp hy with rfl | hy
    · exact h.1
    · have h2 := (List.pairwise_cons.mp ih).1 y hy
      exact List.not_lt.mpr (List.le_trans (List.not_lt.mp h.1) (List.not_lt.mp h2))
theorem sorted_pair {ss : List Str} (h : sortedS ss = true) : ss.Pairwise fun a b => ¬ b.cps.toList < a.cps.toList := by
  cases ss with
  | nil => exact List.Pairwise.nil
  | cons x r => exact rising_pair r x h
theorem vals_strsT : ∀ {vs : List Value} {ss : List Str}, StrsAre vs ss → Vals ((ss.map fun z => z.cps.toList).map tx) vs
  | _, _, .nil => .nil
  | _, _, .cons y t k => .cons ⟨t, by show Value.str y t = Value.str (tS y.cps.toList) t; rw [tS_txt]⟩ (vals_strsT k)
theorem up_strict {L : List (List Nat)} (h : L.Pairwise fun a b => ¬ b < a) (d : L.Nodup) : L.Pairwise (· < ·) := by
  induction L with
  | nil => exact List.Pairwise.nil
  | cons x l ih =>
    obtain ⟨h1, h2⟩ := List.pairwise_cons.mp h
    obtain ⟨d1, d2⟩ := List.nodup_cons.mp d
    refine List.pairwise_cons.mpr ⟨fun y hy => ?_, ih h2 d2⟩
    rcases Decidable.em (x < y) with k | k
    · exact k
    · exact absurd (List.le_antisymm (List.not_lt.mp (h1 y hy)) (List.not_lt.mp k)) (fun z => d1 (z ▸ hy))
section
variable {X : Cx}
theorem tset_new {w : World} {P : Program} {H : Hp} {h : Heap} {a : Addr} {L : List (List Nat)} (R : SetT w h a L) : ObjOk P w H h a (TSet w a L) := by
  obtain ⟨o, es, ep, t, ho, r⟩ := id R
  exact ⟨R, ⟨o, ho⟩, fun h1 h2 p k => SetT.at p k⟩
/-- set(text) -/
theorem cr_setT (hc : X.calm = true) : CallR X (.type "set") (fun xs H Q => ∃ l, xs = [tx l] ∧ l.length ≤ 4000 ∧ ∀ p, H p = none → Q (.ref p) (upd H p (TSet X.w p (lets l)))) := by
  intro pins s σ H xs us Q I r h
  obtain ⟨l, rfl, hz, q⟩ := h
  obtain ⟨u, rfl, rx⟩ := vals1 r
  obtain ⟨t, rfl⟩ := rx
  refine call_set_text (I.ok.hd hc) (by unfold scanBound; omega) fun h' tk hS hk => ?_
  exact ⟨.ref _, _, I.laid (t' := tk) (fun b o e => hk b o (Heap.lt_size e) e) (Nat.le_refl _) (tset_new hS), rfl, q _ (I.hok.fresh (Nat.le_refl _))⟩
/-- sorted(set) -/
theorem cr_sortSetT (hc : X.calm = true) : CallR X (.builtin "sorted") (fun xs H Q => ∃ (a : Addr) (L : List (List Nat)), xs = [.ref a] ∧ H a = some (TSet X.w a L) ∧
    ∀ (L' : List (List Nat)) (p : Addr), L'.Perm L → L'.Pairwise (· < ·) → H p = none → Q (.ref p) (upd H p (.lst (L'.map tx)))) := by
  intro pins s σ H vs us Q I r h
  obtain ⟨a, L, rfl, ha, q⟩ := h
  have R : SetT X.w s.heap a L := (I.hok a _ ha).1
  rw [Vals.ref1 r]
  have nd : L.Nodup := by obtain ⟨_, _, _, _, _, _, _, _, _, n, _⟩ := R; exact n
  have hLs : L.length ≤ sizeLine := by
    obtain ⟨_, es, _, _, _, _, _, _, pL, _, hb, _⟩ := R
    rw [← pL.length_eq, List.length_map, Array.length_toList]
    exact fits_of_scanBound hb
  refine sorted_setX R (I.ok.hd hc) fun s' p out c ss k g o hp hg hi pm hs => ?_
  have pL' : (ss.map fun z => z.cps.toList).Perm L := by
    have := pm.map fun z : Str => z.cps.toList
    rw [List.map_map] at this
    have e : L.map ((fun z : Str => z.cps.toList) ∘ tS) = L := by
      conv => rhs; rw [← List.map_id L]
      refine List.map_congr_left fun l _ => ?_
      simp [tS]
    rwa [e] at this
  have hn : H p = none := I.hok.fresh hp
  have J : Inv X pins σ (upd H p (.lst ((ss.map fun z => z.cps.toList).map tx))) { s with heap := s'.heap, gens := s'.gens, drawn := s'.drawn, toks := s'.toks } :=
    I.call (ch := []) (Un.laid k hp hn) (I.hok.laid k hp ⟨by rw [List.length_map, pL'.length_eq]; exact hLs, out.toList, c, vals_strsT hi, hg⟩) (by rw [g]; exact I.bare) (fun _ z => nomatch z)
  have e : s' = { s with heap := s'.heap, gens := s'.gens, drawn := s'.drawn, toks := s'.toks } := by
    cases s'
    cases s
    cases o
    rfl
  rw [e]
  refine ⟨.ref p, _, J, rfl, q _ p pL' (up_strict ?_ (pL'.nodup_iff.mpr nd)) hn⟩
  rw [List.pairwise_map]
  exact sorted_pair hs
end
end L3
namespace L3
open PySem PySem.Spec PyProof.Rows L2
section
variable {X : Cx} {C f : Addr} {fd : FuncData} {k : Nat} {sp : Sp} {E : XK} {y : Str}
/-- a method run from inside a built-in -/
theorem run_own {pins : List (Addr × Obj)} {σ : L2.St} {H : Hp} {s : Shared} {ps : List Str} {us : List Value} {vs : List V} {Q : VK} {R : Value → Shared → Prop} (F : FnOkG X.prog X.w X.K X.mg X.base CX0 k f fd ps sp) (hr : Room (k + 1) X.A) (hG : X.A.guards = some []) (hb : L2.Binds X.K fd ps [])
    (I : L2.Inv X pins σ H s) (r : Vals vs us) (h : sp vs H Q E0) (hR : ∀ u s', EP X pins σ Q u s' → R u s') {E' : Value → Shared → Prop} : wpAny (model X.prog X.w) X.A.in1 (call (.ref f) us) R E' s := by
  have hl : (us ++ []).length = ps.length := by rw [List.append_nil, ← r.length]; exact F.len _ _ _ _ h
  have hb' : BindsTo s fd ⟨us, []⟩ (ps.zip us) := by
    have := hb s us I.kIn hl
    rwa [List.append_nil] at this
  refine wpAny_call (codeAny_mono (F.run X.A.in1 X.stack s H ⟨us, []⟩ us vs Q E0 hr.in1 hG I.env0.in1 hb' r h) fun r s' hq => ?_)
  cases r with
  | error e => exact (show False from hq).elim
  | ok fl =>
    cases fl with
    | ret u => exact hR u s' (I.after hq)
    | next => exact False.elim hq
    | brk => exact False.elim hq
    | cont => exact False.elim hq
/-- repr(o) -/
theorem cr_reprOwn (F : FnOkG X.prog X.w X.K X.mg X.base CX0 k f fd ["self"] sp) (hr : Room (k + 1) X.A) (hG : X.A.guards = some []) (hb : L2.Binds X.K fd ["self"] []) (m : Meth X.K C "__repr__" f) :
    CallR X (.builtin "repr") (fun xs H Q => ∃ a dx fs, xs = [.ref a] ∧ H a = some (.ins C dx fs) ∧ sp [.ref a] H (fun v H' => ∃ z : Str, v = .str z ∧ Q (.str z) H') E0) := by
  intro pins s σ H xs us Q I r h
  obtain ⟨a, dx, fs, rfl, ha, h⟩ := h
  rw [Vals.ref1 r]
  obtain ⟨mA, O, _⟩ := ins_get I.hok ha
  obtain ⟨od, J, _⟩ := O.look
  obtain ⟨mm, FF⟩ := I.fr
  have hu := hr.units
  refine PySem.W.repr_K (by show X.A.units + 1 < cLine; omega) FF I.ok.mod.kin J m.at_ m.fn (run_own (vs := [.ref a]) (us := [.ref a]) F hr hG hb I (.cons rfl .nil) h fun u s' hq => ?_)
  obtain ⟨v, H', I', rv, z, rfl, q⟩ := hq
  obtain ⟨t, rfl⟩ := rv
  exact ⟨.str z, H', I', ⟨t, rfl⟩, q⟩
/-- x in o -/
theorem op_inOwn (F : FnOkG X.prog X.w X.K X.mg X.base CX0 k f fd ["self", y] sp) (hr : Room (k + 1) X.A) (hG : X.A.guards = some []) (hb : L2.Binds X.K fd ["self", y] []) (m : Meth X.K C "__contains__" f) :
    OpR X (compareOp .In) (fun x o H Q => ∃ a dx fs, o = .ref a ∧ H a = some (.ins C dx fs) ∧ sp [.ref a, x] H (fun v H' => ∃ b : Bool, v = .bl b ∧ Q (.bl b) H') E0) := by
  intro pins s σ H x o v u Q I rx ro h
  obtain ⟨a, dx, fs, rfl, ha, h⟩ := h
  cases ro
  obtain ⟨mA, O, _⟩ := ins_get I.hok ha
  obtain ⟨od, J, _⟩ := O.look
  obtain ⟨mm, FF⟩ := I.fr
  refine PySem.W.in_K FF I.ok.mod.kin J m.at_ m.fn ?_
  refine thn (run_fnG (vs := [.ref a, x]) (us := [.ref a, v]) (ws := [.ref a, v]) (kw := []) F (hr.mono (Nat.le_succ k)) hG pass0 I (hb s [.ref a, v] I.kIn rfl) (.cons rfl (.cons rx .nil)) h) fun u s' hq => ?_
  obtain ⟨w, H', I', rw', b, rfl, q⟩ := hq
  cases rw'
  cases b
  · exact wpAny_pure ⟨.bl false, H', I', rfl, q⟩
  · exact wpAny_pure ⟨.bl true, H', I', rfl, q⟩
/-- {e!r}, e a list or tuple of data -/
def tFmtRD (K : PySem.W.Frag) (te : TE) : TE := fun σ H Q => te σ H fun x H1 => ∃ (a : Addr) (d : PyData), x = .ref a ∧ Dp K H1 x d ∧ d.showable = true ∧ d.shown.length ≤ sizeLine ∧ d.depth ≤ 50 ∧ Q (.str d.shown) H1
theorem pe_fmtRD {e : Expr} {te : TE} {pos : Pos} (hr : Room k X.A) (hG : X.A.guards = some []) (he : PE X e te) : PE X (.FormattedValue e 114 none pos) (tFmtRD X.K te) := by
  refine ⟨fun pins s σ H Q I h => ?_⟩
  refine wpAny_FormattedValue_repr (thn (he.run pins s σ H _ I h) fun v s1 hv => ?_)
  obtain ⟨x, H1, I1, r1, a, d, rfl, hd, hs, hz, hdp, q⟩ := hv
  cases r1
  have hu := hr.units
  obtain ⟨as, hR⟩ := Dp.reads I1 d (.ref a) (.ref a) hd rfl
  refine pyReprObj_of_reads hR hs (PyData.noDict_hsm (dp_noDict (K := X.K) (H := H1) hd)) hG (by omega) (fun _ _ e => e) (fun h' t tk hk => ?_) hz
  exact wpAny_formatField_str ⟨.str d.shown, H1, I1.kept hk, ⟨_, rfl⟩, q⟩ ⟨.str d.shown, H1, (I1.kept hk).tok _, ⟨_, rfl⟩, q⟩ hz
end
end L3
namespace L3
open PySem PySem.Spec PyProof.Rows L2
/-- what is walked -/
inductive Src where
  | L (a : Addr) | T (a : Addr) | S (x : Str)
/-- its items -/
def Src.has (K : PySem.W.Frag) (H : Hp) : Src → List V → Prop
  | .L a, xs => SqL K H a xs
  | .T a, xs => SqT K H a xs
  | .S x, xs => xs = x.cps.toList.map fun c => V.str ⟨#[c]⟩
def Src.val : Src → V
  | .L a => .ref a
  | .T a => .ref a
  | .S x => .str x
def Src.it : Src → Addr → Nat → Heap → Prop
  | .L a, it, i, h => h.IsListIter it a i
  | .T a, it, i, h => h.IsTupleIter it a i
  | .S x, it, i, h => ∃ t, h.IsStrIter it (strIterType x) x t i
theorem vals_back : ∀ {xs : List V} {us : List Value} {i : Nat} {u : Value}, Vals xs us → us[i]? = some u → ∃ x, xs[i]? = some x ∧ RelV x u
  | _, _, _, _, .nil, e => by simp at e
  | _, _, 0, _, .cons r _, e => by simp at e; subst e; exact ⟨_, rfl, r⟩
  | _, _, i + 1, u, .cons _ t, e => by
    obtain ⟨x, h1, h2⟩ := vals_back (i := i) (u := u) t (by simpa using e)
    exact ⟨x, by simpa using h1, h2⟩
theorem Src.obj {z : Src} {it : Addr} {i : Nat} {h : Heap} (st : z.it it i h) : ∃ o, h.get? it = some o ∧ ∀ v, o.data ≠ .cell v := by
  cases z with
  | L a => obtain ⟨o, e, _, d⟩ := st; exact ⟨o, e, fun v q => by rw [d] at q; cases q⟩
  | T a => obtain ⟨o, e, _, d⟩ := st; exact ⟨o, e, fun v q => by rw [d] at q; cases q⟩
  | S x => obtain ⟨t, o, e, _, d⟩ := st; exact ⟨o, e, fun v q => by rw [d] at q; cases q⟩
theorem Src.keep {z : Src} {it : Addr} {i : Nat} {h h' : Heap} (st : z.it it i h) (k : ∀ o, h.get? it = some o → h'.get? it = some o) : z.it it i h' := by
  cases z with
  | L a => exact Heap.IsListIter.at st k
  | T a => exact Heap.IsTupleIter.at st k
  | S x => obtain ⟨t, o, e, r⟩ := st; exact ⟨t, o, k o e, r⟩
section
variable {X : Cx} {pins : List (Addr × Obj)} {σ : L2.St} {H : Hp} {s : Shared}
theorem Src.draws {z : Src} {xs : List V} {it : Addr} {i : Nat} (hh : X.A.handled = none) (I : L2.Inv X pins σ H s) (q : z.has X.K H xs) (st : z.it it i s.heap) (hn : ∀ a, z.val = .ref a → a ≠ it) :
    ∃ (fp : List Addr) (P : Nat → Value → Prop) (St : Nat → Heap → Prop), Draws X.prog X.w X.A.in1 it (it :: fp) xs.length P St ∧ (∀ b ∈ fp, z.val = .ref b) ∧ St i s.heap ∧ (∀ j h, St j h → z.it it j h) ∧ ∀ j v, P j v → ∃ x, xs[j]? = some x ∧ RelV x v := by
  cases z with
  | L a =>
    obtain ⟨its, rv, p, _⟩ := I.list q
    have e : its.toArray.size = xs.length := by rw [List.size_toArray, rv.length]
    refine ⟨[a], fun i v => its.toArray[i]? = some v, fun i h => h.IsListIter it a i ∧ h.IsList a its.toArray, by rw [← e]; exact Draws.list (A := X.A.in1) hh it a (hn a rfl) its.toArray, fun b hb => by rw [List.mem_singleton.mp hb]; rfl, ⟨st, p.isList⟩, fun j h k => k.1, fun j v hv => vals_back rv (by simpa using hv)⟩
  | T a =>
    obtain ⟨its, rv, p, _⟩ := I.tuple q
    have e : its.toArray.size = xs.length := by rw [List.size_toArray, rv.length]
    refine ⟨[a], fun i v => its.toArray[i]? = some v, fun i h => h.IsTupleIter it a i ∧ h.IsTuple a its.toArray, by rw [← e]; exact Draws.tuple (A := X.A.in1) hh it a (hn a rfl) its.toArray, fun b hb => by rw [List.mem_singleton.mp hb]; rfl, ⟨st, p⟩, fun j h k => k.1, fun j v hv => vals_back rv (by simpa using hv)⟩
  | S x =>
    obtain ⟨t, st⟩ := st
    have q : xs = x.cps.toList.map fun c => V.str ⟨#[c]⟩ := q
    have e : x.cps.size = xs.length := by rw [q]; simp
    refine ⟨[], fun i v => ∃ c u, x.cps[i]? = some c ∧ v = .str ⟨#[c]⟩ u, fun i h => h.IsStrIter it (strIterType x) x t i, by rw [← e]; exact Draws.text (A := X.A.in1) hh it x t, fun b hb => (by cases hb), st, fun j h k => ⟨t, k⟩, fun j v hv => ?_⟩
    obtain ⟨c, u, hc, rfl⟩ := hv
    refine ⟨.str ⟨#[c]⟩, ?_, ⟨u, rfl⟩⟩
    rw [q, List.getElem?_map]
    have : x.cps.toList[j]? = some c := by simpa using hc
    rw [this]; rfl
theorem Src.inj {z : Src} {xs ys : List V} (I : L2.Inv X pins σ H s) (h : z.has X.K H xs) (h' : z.has X.K H ys) : xs = ys := by
  cases z with
  | L a => exact I.list_inj h h'
  | T a => exact I.tuple_inj h h'
  | S x => exact (show xs = _ from h).trans (show ys = _ from h').symm
theorem Src.lt {z : Src} {xs : List V} (I : L2.Inv X pins σ H s) (q : z.has X.K H xs) : ∀ a, z.val = .ref a → a < s.heap.objs.size := by
  intro a ha
  cases z with
  | L b =>
    cases ha
    obtain ⟨its, rv, p, _⟩ := I.list q
    exact p.lt
  | T b =>
    cases ha
    obtain ⟨its, rv, ⟨o, e, _⟩, _⟩ := I.tuple q
    exact Heap.lt_size e
  | S x => cases ha
/-- iter of it -/
theorem Src.begins {z : Src} {xs : List V} {u : Value} (I : L2.Inv X pins σ H s) (q : z.has X.K H xs) (r : RelV z.val u) :
    ∃ (o : Obj) (G : Heap → Prop), Begins u o G ∧ G s.heap ∧ ∀ (h : Heap) (it : Addr), h.get? it = some o → z.it it 0 h := by
  cases z with
  | L a =>
    cases r
    obtain ⟨its, rv, p, _⟩ := I.list q
    exact ⟨_, _, begins_list a its.toArray, p.isList, fun h it e => ⟨_, e, rfl, rfl⟩⟩
  | T a =>
    cases r
    obtain ⟨its, rv, p, _⟩ := I.tuple q
    exact ⟨_, _, begins_tuple a its.toArray, p, fun h it e => ⟨_, e, rfl, rfl⟩⟩
  | S x =>
    obtain ⟨t, rfl⟩ := r
    exact ⟨_, _, begins_text x t, trivial, fun h it e => ⟨t, _, e, rfl, rfl⟩⟩
end
def ItZ (K : PySem.W.Frag) (y z : Src) : It :=
  ⟨fun i H => ∃ (xs ys : List V) (a b : V), y.has K H xs ∧ z.has K H ys ∧ xs[i]? = some a ∧ ys[i]? = some b,
    fun i H v H' => ∃ T a b, v = .ref T ∧ H T = none ∧ H' = upd H T (.tup [a, b]) ∧ (∀ xs, y.has K H xs → xs[i]? = some a) ∧ ∀ ys, z.has K H ys → ys[i]? = some b,
    fun i H => ∃ xs ys : List V, y.has K H xs ∧ z.has K H ys ∧ i ≤ xs.length ∧ i ≤ ys.length ∧ (i = xs.length ∨ i = ys.length)⟩
theorem turn_zipS {P : Program} {w : World} {K : PySem.W.Frag} {elts : List Expr} {kk : Nat} {tpos : Pos} {N : Nat} {y z : Src} (ly : ∀ a, y.val = .ref a → a < N) (lz : ∀ a, z.val = .ref a → a < N) :
    Turn P w K (.Tuple elts kk tpos) (ItZ K y z) [N + 4, N + 2, N + 3, N, N + 1] (N + 4) (fun i h => IsZip h (N + 4) (N + 2) (N + 3) .none ∧ IsTupOf2 h (N + 2) (.ref N) (.ref (N + 1)) ∧ (∃ a b, IsTupOf2 h (N + 3) a b) ∧ y.it N i h ∧ z.it (N + 1) i h) where
  mem := by simp
  obj := fun i h st c hc => by
    obtain ⟨hz, hTI, ⟨a, b, hTO⟩, h1, h2⟩ := st
    have e' : c = N + 4 ∨ c = N + 2 ∨ c = N + 3 ∨ c = N ∨ c = N + 1 := by simpa using hc
    rcases e' with q | q | q | q | q
    · rw [q]; exact ⟨_, hz, fun v q => nomatch q⟩
    · rw [q]; exact ⟨_, hTI, fun v q => nomatch q⟩
    · rw [q]; exact ⟨_, hTO, fun v q => nomatch q⟩
    · rw [q]; exact Src.obj h1
    · rw [q]; exact Src.obj h2
  keep := fun i h h' st k => by
    obtain ⟨hz, hTI, ⟨a, b, hTO⟩, h1, h2⟩ := st
    exact ⟨k _ (by simp) _ hz, k _ (by simp) _ hTI, ⟨a, b, k _ (by simp) _ hTO⟩, Src.keep h1 fun o q => k N (by simp) o q, Src.keep h2 fun o q => k (N + 1) (by simp) o q⟩
  item := by
    intro X hP hw hK hc i pins s σ H E I hf st hg
    subst hP hw hK
    obtain ⟨hz, hTI, ⟨a0, b0, hTO⟩, h1, h2⟩ := st
    obtain ⟨xs, ys, a, b, hqx, hqy, ha, hb⟩ := hg
    have hh := I.ok.hd hc
    obtain ⟨fp1, P1, St1, D1, f1, s1, b1, p1⟩ := Src.draws hh I hqx h1 (fun c e => Nat.ne_of_lt (ly c e))
    obtain ⟨fp2, P2, St2, D2, f2, s2, b2, p2⟩ := Src.draws hh I hqy h2 (fun c e => Nat.ne_of_lt (Nat.lt_succ_of_lt (lz c e)))
    have S : ZipSep2 (N + 4) (N + 2) (N + 3) N (N + 1) (N :: fp1) ((N + 1) :: fp2) := zip_sep2 (fun c e => ly c (f1 c e)) (fun c e => lz c (f2 c e))
    have hzl : N + 4 < s.heap.objs.size := Heap.lt_size hz
    have l1 : i < xs.length := (List.getElem?_eq_some_iff.mp ha).1
    have l2 : i < ys.length := (List.getElem?_eq_some_iff.mp hb).1
    refine wpAny_pyNext_zipD2_item S D1 D2 hz hTI hTO s1 s2 l1 l2 fun u u2 h' tk hu hu2 z' TO' st1 st2 hT hsz hk => ?_
    obtain ⟨a', ea, ra⟩ := p1 i u hu
    obtain ⟨b', eb, rb⟩ := p2 i u2 hu2
    refine ⟨_, rfl, wpAny_letOwnedTupleGo_zip (s := { s with heap := h', toks := tk }) z' fun h'' z'' sb => ?_⟩
    have hT2 : h''.get? s.heap.objs.size = some { cls := .type "tuple", data := .seq #[u, u2] } := (sb.2 _ (Nat.ne_of_gt (Heap.lt_size hz))).trans hT
    have new : ObjOk X.prog X.w (upd H s.heap.objs.size (.tup [a', b'])) h'' s.heap.objs.size (.tup [a', b']) :=
      ⟨by show 2 ≤ sizeLine; decide, [u, u2], .cons ra (.cons rb .nil), ⟨_, hT2, rfl, _, rfl⟩⟩
    have I1 : L2.Inv X pins σ (upd H s.heap.objs.size (.tup [a', b'])) { s with heap := h'', toks := tk } :=
      I.turnedNew (t' := tk) (ch := [N + 4, N + 2, N + 3, N, N + 1]) (fun c o hb q => (sb.2 c (fun q' => hb (by simp [q']))).trans (hk c o (fun q' => hb (by simp [q'])) (fun q' => hb (by simp [q'])) (fun q' => hb (by simp [q'])) (fun q' => hb (by simp [q'])) q)) hf (Nat.le_refl _) new
    refine ⟨.ref s.heap.objs.size, _, I1, rfl, ⟨_, a', b', rfl, I.hok.fresh (Nat.le_refl _), rfl, fun l hl => by rw [Src.inj I hl hqx]; exact ea, fun l hl => by rw [Src.inj I hl hqy]; exact eb⟩, ⟨z'', ?_, ⟨u, u2, ?_⟩, ?_, ?_⟩, fun c hcm => ?_⟩
    · exact (sb.2 _ S.TIz).trans (hk _ _ S.TIz S.TITO S.TIi1 S.TIi2 hTI)
    · exact (sb.2 _ S.TOz).trans TO'
    · exact Src.keep (b1 _ _ st1) fun o q => (sb.2 _ (Nat.ne_of_lt (Nat.lt_add_of_pos_right (by decide)))).trans q
    · exact Src.keep (b2 _ _ st2) fun o q => (sb.2 _ (Nat.ne_of_lt (Nat.add_lt_add_left (by decide) N))).trans q
    · have hlt : c < s.heap.objs.size := by
        have e' : c = N + 4 ∨ c = N + 2 ∨ c = N + 3 ∨ c = N ∨ c = N + 1 := by simpa using hcm
        have l3 : N + 4 < s.heap.objs.size := Heap.lt_size hz
        rcases e' with q | q | q | q | q
        · rw [q]; exact l3
        · rw [q]; exact Nat.lt_trans (Nat.add_lt_add_left (by decide) N) l3
        · rw [q]; exact Nat.lt_trans (Nat.add_lt_add_left (by decide) N) l3
        · rw [q]; exact Nat.lt_trans (Nat.lt_add_of_pos_right (by decide)) l3
        · rw [q]; exact Nat.lt_trans (Nat.add_lt_add_left (by decide) N) l3
      rw [upd_ne (Nat.ne_of_lt hlt)]
      exact (hf c hcm).1
  done := by
    intro X hP hw hK hc i pins s σ H E I hf st hg
    subst hP hw hK
    obtain ⟨hz, hTI, ⟨a0, b0, hTO⟩, h1, h2⟩ := st
    obtain ⟨xs, ys, hqx, hqy, e1, e2, he⟩ := hg
    have hh := I.ok.hd hc
    obtain ⟨fp1, P1, St1, D1, f1, s1, b1, p1⟩ := Src.draws hh I hqx h1 (fun c e => Nat.ne_of_lt (ly c e))
    obtain ⟨fp2, P2, St2, D2, f2, s2, b2, p2⟩ := Src.draws hh I hqy h2 (fun c e => Nat.ne_of_lt (Nat.lt_succ_of_lt (lz c e)))
    have S : ZipSep2 (N + 4) (N + 2) (N + 3) N (N + 1) (N :: fp1) ((N + 1) :: fp2) := zip_sep2 (fun c e => ly c (f1 c e)) (fun c e => lz c (f2 c e))
    exact wpAny_pyNext_zipD2_end S D1 D2 hz hTI hTO s1 s2 e1 e2 he fun h' tk hk => ⟨rfl, I.turnedL (t' := tk) (ch := [N + 4, N + 2, N + 3, N, N + 1]) (fun c o hb q =>
      hk c o (fun q' => hb (by simp [q'])) (fun q' => hb (by simp [q'])) (fun q' => hb (by simp [q'])) (fun q' => hb (by simp [q'])) q) hf⟩
  self := fun A i s Q E st h => wpAny_pyIter_zip st.1 h
/-- zip(e, e2) -/
def iZipS (K : PySem.W.Frag) (ta : TA) : TI := fun σ H R => ta σ H fun vs H1 => ∃ (y z : Src) (xs ys : List V), vs = [y.val, z.val] ∧ y.has K H1 xs ∧ z.has K H1 ys ∧ R (ItZ K y z) H1
theorem pi_zipS {X : Cx} {e e2 : Expr} {ta : TA} {p pos tpos : Pos} {elts : List Expr} {kk : Nat} (hg : Gl X "zip") (hm : X.mg "zip" = none) (ha : PA X [e, e2] ta)
    (hs : starEach [e, e2] X.env = (false, eval e X.env) :: starEach [e2] X.env := by rfl) (hpl : (backTo pos (starEach [e2] X.env)).any (·.1) = false := by rfl) :
    PI X (.Tuple elts kk tpos) (.Call (.Name "zip" p) [e, e2] [] pos) (iZipS X.K ta) := by
  refine ⟨fun pins s σ H R I h => ?_⟩
  refine Call_ (ld_blt I hg hm PyProof.Rows.boot_zip (PyProof.Rows.callWith_type1 (thn (ha.run pos pins s σ H _ I h) fun us s1 ⟨vs, H1, I1, r1, q1⟩ => ?_) hs hpl))
  obtain ⟨y, z, xs, ys, ex, hqx, hqy, q⟩ := q1
  subst ex
  cases r1 with
  | cons r rr =>
    cases rr with
    | cons r' rr =>
      cases rr
      obtain ⟨o1, G1, B1, g1, k1⟩ := Src.begins I1 hqx r
      obtain ⟨o2, G2, B2, g2, k2⟩ := Src.begins I1 hqy r'
      refine zip_begins2 B1 B2 g1 g2 fun h' hz hTI hTO c1 c2 hsz hk => wpAny_pyIter_zip hz ?_
      have I2 : L2.Inv X pins σ H1 { s1 with heap := h' } := I1.kept (t' := s1.toks) hk
      refine ⟨s1.heap.objs.size + 4, [s1.heap.objs.size + 4, s1.heap.objs.size + 2, s1.heap.objs.size + 3, s1.heap.objs.size, s1.heap.objs.size + 1], _, _, H1, rfl, I2, turn_zipS (Src.lt I1 hqx) (Src.lt I1 hqy), ⟨hz, hTI, ⟨_, _, hTO⟩, k1 _ _ c1, k2 _ _ c2⟩, fun c hcm => ?_, q⟩
      have e' : c = s1.heap.objs.size + 4 ∨ c = s1.heap.objs.size + 2 ∨ c = s1.heap.objs.size + 3 ∨ c = s1.heap.objs.size ∨ c = s1.heap.objs.size + 1 := by simpa using hcm
      have hle : s1.heap.objs.size ≤ c := by rcases e' with q | q | q | q | q <;> rw [q] <;> omega
      exact I1.fpOk hle (I1.hok.fresh hle)
theorem walk_zipS {K : PySem.W.Frag} {y z : Src} {xs ys : List V} (hn : xs.length = ys.length) : Walk (ItZ K y z) xs.length (fun H => y.has K H xs ∧ z.has K H ys) (YPair (fun i => xs[i]?) (fun i => ys[i]?)) := by
  refine ⟨fun i _ hi q => ?_, fun _ q => ⟨xs, ys, q.1, q.2, Nat.le_refl _, by omega, .inl rfl⟩, fun i H v H' _ q y => ?_⟩
  · have h2 : i < ys.length := by omega
    exact ⟨xs, ys, xs[i], ys[i], q.1, q.2, by simp [hi], by simp [h2]⟩
  · obtain ⟨T, x, z, h1, h2, h3, h4, h5⟩ := y
    exact ⟨T, x, z, h1, h2, h3, h4 xs q.1, h5 ys q.2⟩
def ItE (K : PySem.W.Frag) (y : Src) : It :=
  ⟨fun i H => ∃ (xs : List V) (a : V), y.has K H xs ∧ xs[i]? = some a,
    fun i H v H' => ∃ T a, v = .ref T ∧ H T = none ∧ H' = upd H T (.tup [.int (i : Nat), a]) ∧ ∀ xs, y.has K H xs → xs[i]? = some a,
    fun i H => ∃ xs : List V, y.has K H xs ∧ i = xs.length⟩
theorem turn_enumS {P : Program} {w : World} {K : PySem.W.Frag} {elts : List Expr} {kk : Nat} {tpos : Pos} {N : Nat} {y : Src} (ly : ∀ a, y.val = .ref a → a < N) :
    Turn P w K (.Tuple elts kk tpos) (ItE K y) [N + 1, N] (N + 1) (fun i h => (∃ old, IsEnum h (N + 1) N ((i : Nat) : Int) old) ∧ y.it N i h) where
  mem := by simp
  obj := fun i h st b hb => by
    obtain ⟨⟨old, he⟩, h1⟩ := st
    have e' : b = N + 1 ∨ b = N := by simpa using hb
    rcases e' with q | q
    · rw [q]; exact ⟨_, he, fun v q => nomatch q⟩
    · rw [q]; exact Src.obj h1
  keep := fun i h h' st k => by
    obtain ⟨⟨old, he⟩, h1⟩ := st
    exact ⟨⟨old, k _ (by simp) _ he⟩, Src.keep h1 fun o q => k N (by simp) o q⟩
  item := by
    intro X hP hw hK hc i pins s σ H E I hf st hg
    subst hP hw hK
    obtain ⟨⟨old, he⟩, h1⟩ := st
    obtain ⟨xs, a, hqx, ha⟩ := hg
    have hh := I.ok.hd hc
    obtain ⟨fp1, P1, St1, D1, f1, s1, b1, p1⟩ := Src.draws hh I hqx h1 (fun c e => Nat.ne_of_lt (ly c e))
    have hel : N + 1 < s.heap.objs.size := Heap.lt_size he
    have l1 : i < xs.length := (List.getElem?_eq_some_iff.mp ha).1
    have hef : N + 1 ∉ N :: fp1 := fun hm => by
      rcases List.mem_cons.mp hm with e | hm
      · exact Nat.succ_ne_self N e
      · exact absurd (ly _ (f1 _ hm)) (Nat.not_lt.mpr (Nat.le_succ N))
    refine wpAny_pyNext_enum_itemD D1 he s1 l1 (Nat.succ_ne_self N) hef fun u h' tk hu ho st1 hT hsz hk => ?_
    obtain ⟨a', ea, ra⟩ := p1 i u hu
    refine ⟨_, rfl, wpAny_letOwnedTupleGo_enum (s := { s with heap := h', toks := tk + 1 }) ho fun h'' he' sb => ?_⟩
    have hT2 : h''.get? s.heap.objs.size = some { cls := .type "tuple", data := .seq #[.int i tk, u] } := (sb.2 _ (Nat.ne_of_gt (Heap.lt_size he))).trans hT
    have new : ObjOk X.prog X.w (upd H s.heap.objs.size (.tup [.int (i : Nat), a'])) h'' s.heap.objs.size (.tup [.int (i : Nat), a']) :=
      ⟨by show 2 ≤ sizeLine; decide, [.int i tk, u], .cons ⟨_, rfl⟩ (.cons ra .nil), ⟨_, hT2, rfl, _, rfl⟩⟩
    have I1 : L2.Inv X pins σ (upd H s.heap.objs.size (.tup [.int (i : Nat), a'])) { s with heap := h'', toks := tk + 1 } :=
      I.turnedNew (ch := [N + 1, N]) (fun b ob hb q => (sb.2 b (fun z => hb (by simp [z]))).trans (hk b ob (fun z => hb (by simp [z])) (fun z => hb (by simp [z])) q)) hf (Nat.le_refl _) new
    refine ⟨.ref s.heap.objs.size, _, I1, rfl, ⟨_, a', rfl, I.hok.fresh (Nat.le_refl _), rfl, fun ys hy => by rw [Src.inj I hy hqx]; exact ea⟩, ⟨⟨u, ?_⟩, Src.keep (b1 _ _ st1) fun o q => (sb.2 N (Nat.ne_of_lt (Nat.lt_succ_self N))).trans q⟩, fun b hb => ?_⟩
    · have e1 : ((i + 1 : Nat) : Int) = (i : Int) + 1 := by omega
      rw [e1]; exact he'
    · have hb' : b < s.heap.objs.size := by
        have e' : b = N + 1 ∨ b = N := by simpa using hb
        rcases e' with q | q
        · rw [q]; exact hel
        · rw [q]; exact Nat.lt_trans (Nat.lt_succ_self N) hel
      rw [upd_ne (Nat.ne_of_lt hb')]
      exact (hf b hb).1
  done := by
    intro X hP hw hK hc i pins s σ H E I hf st hg
    subst hP hw hK
    obtain ⟨⟨old, he⟩, h1⟩ := st
    obtain ⟨xs, hqx, e⟩ := hg
    have hh := I.ok.hd hc
    obtain ⟨fp1, P1, St1, D1, f1, s1, b1, p1⟩ := Src.draws hh I hqx h1 (fun c e => Nat.ne_of_lt (ly c e))
    obtain ⟨f0, f1', f2, f3, f4, f5⟩ := hf N (by simp)
    exact wpAny_pyNext_enum_endD D1 he (e ▸ s1) fun h' eb => ⟨rfl, I.turned (t' := s.toks) (fun b o hb q => eb b o hb q) f0 f1' f3 f4 f5⟩
  self := fun A i s Q E st h => let ⟨⟨_, he⟩, _⟩ := st; wpAny_pyIter_enum he h
theorem meets_enum1 {v : Value} {o : Obj} {G : Heap → Prop} (B : Begins v o G) :
    Meets (Builtin.«enumerate.__new__» ⟨[.type "enumerate", v], []⟩) (fun _ R s => G s.heap ∧
      R (.ok (.ret (.ref (s.heap.push o).objs.size))) { s with heap := (s.heap.push o).push { cls := .type "enumerate", data := .fields #[.none, .bool false, .ref s.heap.objs.size, rawInt 0, .none, .none] } }) :=
  .of_wp fun prog w A R s h => by
    obtain ⟨hp, g, d, tk, os⟩ := s; obtain ⟨h1, h⟩ := h
    have hsub := sub_enumerate
    have q1 : ∀ {A' : Around} {E : Value → Shared → Prop} {Q : Value → Shared → Prop}, Q (.ref hp.objs.size) ⟨hp.push o, g, d, tk, os⟩ → wpAny (model prog w) A' (pyIter v) Q E ⟨hp, g, d, tk, os⟩ :=
      fun q => B.iter prog w _ _ ⟨hp, g, d, tk, os⟩ _ h1 q
    wp_walk using q1
    refine wpAny_stack_any fun st => wpAny_pure ?_
    split
    · rename_i c _ _ _ _ _
      cases (c == Value.type "enumerate")
      · wp_walk using q1
        exact ⟨_, rfl, h⟩
      · wp_walk using q1
        exact ⟨_, rfl, h⟩
    · wp_walk using q1
      exact ⟨_, rfl, h⟩
theorem enum_begins1 {prog : Program} {w : World} {A : Around} {E : Value → Shared → Prop} {s : Shared} {v : Value} {o : Obj} {G : Heap → Prop} {Q : Value → Shared → Prop} (B : Begins v o G) (h1 : G s.heap)
    (h : ∀ h', IsEnum h' (s.heap.objs.size + 1) s.heap.objs.size 0 .none → h'.get? s.heap.objs.size = some o → h'.objs.size = s.heap.objs.size + 2 →
      (∀ b o, s.heap.get? b = some o → h'.get? b = some o) → Q (.ref (s.heap.objs.size + 1)) { s with heap := h' }) :
    wpAny (model prog w) A (call (.type "enumerate") [v]) Q E s := by
  refine callType_new F.called_enumerate (by decide) (F.typeCall_enumerate_1 _) (F.newCall_enumerate_1 _) (fun obj => F.args_object_init_2 obj _) F.entry_enumerate_new (meets_enum1 B) ⟨h1, ?_⟩
  have hz : (s.heap.push o).objs.size = s.heap.objs.size + 1 := Heap.size_push ..
  show _ ∧ _
  rw [hz]
  have he : IsEnum ((s.heap.push o).push { cls := .type "enumerate", data := .fields #[.none, .bool false, .ref s.heap.objs.size, rawInt 0, .none, .none] }) (s.heap.objs.size + 1) s.heap.objs.size 0 .none := by
    have := Heap.get?_push_size (s.heap.push o) (o := { cls := .type "enumerate", data := .fields #[.none, .bool false, .ref s.heap.objs.size, rawInt 0, .none, .none] }) rfl
    rw [hz] at this; exact this
  exact ⟨⟨_, he, rfl⟩, h _ he (Heap.get?_push_of_some _ (Heap.get?_push_size _ B.free)) (by rw [Heap.size_push, hz]) fun b o x => Heap.get?_push_of_some _ (Heap.get?_push_of_some _ x)⟩
/-- enumerate(e) -/
def iEnumS (K : PySem.W.Frag) (ta : TA) : TI := fun σ H R => ta σ H fun vs H1 => ∃ (y : Src) (xs : List V), vs = [y.val] ∧ y.has K H1 xs ∧ R (ItE K y) H1
theorem pi_enumS {X : Cx} {e : Expr} {ta : TA} {p pos tpos : Pos} {elts : List Expr} {kk : Nat} (hg : Gl X "enumerate") (hm : X.mg "enumerate" = none) (ha : PA X [e] ta) (hs : starEach [e] X.env = [(false, eval e X.env)] := by rfl) :
    PI X (.Tuple elts kk tpos) (.Call (.Name "enumerate" p) [e] [] pos) (iEnumS X.K ta) := by
  refine ⟨fun pins s σ H R I h => ?_⟩
  refine Call_ (ld_blt I hg hm boot_enumerate (PyProof.Rows.callWith_type1 (thn (ha.run pos pins s σ H _ I h) fun us s1 ⟨vs, H1, I1, r1, q1⟩ => ?_) hs rfl))
  obtain ⟨y, xs, ex, hq, q⟩ := q1
  subst ex
  cases r1 with
  | cons r rr =>
    cases rr
    obtain ⟨o1, G1, B1, g1, k1⟩ := Src.begins I1 hq r
    refine enum_begins1 B1 g1 fun h' he c1 hsz hk => wpAny_pyIter_enum he ?_
    have I2 : L2.Inv X pins σ H1 { s1 with heap := h' } := I1.kept (t' := s1.toks) hk
    refine ⟨s1.heap.objs.size + 1, [s1.heap.objs.size + 1, s1.heap.objs.size], _, _, H1, rfl, I2, turn_enumS (Src.lt I1 hq), ⟨⟨.none, he⟩, k1 _ _ c1⟩, fun b hb => ?_, q⟩
    have e' : b = s1.heap.objs.size + 1 ∨ b = s1.heap.objs.size := by simpa using hb
    have hle : s1.heap.objs.size ≤ b := by rcases e' with q | q <;> rw [q] <;> omega
    exact I1.fpOk hle (I1.hok.fresh hle)
theorem walk_enumS {K : PySem.W.Frag} {y : Src} {xs : List V} : Walk (ItE K y) xs.length (fun H => y.has K H xs) (YPair (fun i => some (.int (i : Nat))) (fun i => xs[i]?)) := by
  refine ⟨fun i _ hi q => ⟨xs, xs[i], q, by simp [hi]⟩, fun _ q => ⟨xs, q, rfl⟩, fun i H v H' _ q y => ?_⟩
  obtain ⟨T, x, h1, h2, h3, h4⟩ := y
  exact ⟨T, .int (i : Nat), x, h1, h2, h3, rfl, h4 xs q⟩
end L3
namespace L3
open PySem PySem.Spec PyProof.Rows L2
end L3
namespace L3
open PySem PySem.Spec PyProof.Rows L2
/-- numbers as values -/
def nV (l : List Nat) : List V := l.map fun (n : Nat) => V.int (n : Int)
theorem nV_len (l : List Nat) : (nV l).length = l.length := by unfold nV; rw [List.length_map]
theorem nV_get {l : List Nat} {i n : Nat} (h : l[i]? = some n) : (nV l)[i]? = some (V.int (n : Int)) := by unfold nV; rw [List.getElem?_map, h]; rfl
theorem nV_inv {l : List Nat} {i : Nat} {v : V} (h : (nV l)[i]? = some v) : ∃ n, l[i]? = some n ∧ v = V.int (n : Int) := by
  unfold nV at h
  rw [List.getElem?_map] at h
  obtain ⟨n, h1, h2⟩ := Option.map_eq_some_iff.mp h
  exact ⟨n, h1, h2.symm⟩
theorem nV_flat (l : List Nat) : (nV l).all flatV = true := by
  rw [List.all_eq_true]
  intro x hx
  obtain ⟨n, _, rfl⟩ := List.mem_map.mp hx
  rfl
theorem eqV_int (a b : Nat) : eqV (.int (a : Int)) (.int (b : Int)) = decide (a = b) := by
  show ((a : Int) == (b : Int)) = _
  by_cases h : a = b
  · subst h; simp
  · rw [decide_eq_false h]; exact beq_eq_false_iff_ne.mpr (by omega)
theorem nV_in (n : Nat) (l : List Nat) : inV (.int (n : Int)) (nV l) = decide (n ∈ l) := by
  unfold inV nV
  rw [List.any_map]
  by_cases h : n ∈ l
  · rw [decide_eq_true h, List.any_eq_true]
    exact ⟨n, h, by show eqV (.int (n : Int)) (.int (n : Int)) = true; rw [eqV_int]; exact decide_eq_true rfl⟩
  · rw [decide_eq_false h, List.any_eq_false]
    intro x hx e
    have e : eqV (.int (x : Int)) (.int (n : Int)) = true := e
    rw [eqV_int] at e
    exact h (of_decide_eq_true e ▸ hx)
theorem idx_first : ∀ {l : List Nat} {n m k : Nat}, m < l.idxOf n → l[m]? = some k → k ≠ n
  | [], n, m, k, hm, h => by simp at h
  | a :: l, n, m, k, hm, h => by
    rw [List.idxOf_cons] at hm
    by_cases e : a = n
    · subst e; simp at hm
    · have e' : (a == n) = false := by simpa using e
      rw [e'] at hm
      simp only [cond_false] at hm
      cases m with
      | zero => simp at h; subst h; exact e
      | succ m => exact idx_first (l := l) (m := m) (by omega) (by simpa using h)
mutual
theorem Dp.same {K : PySem.W.Frag} {H H' : Hp} (s : Same H H') : ∀ {v : V} {d : PyData}, Dp K H v d → Dp K H' v d
  | _, _, .non => .non
  | _, _, .bl b => .bl b
  | _, _, .int i => .int i
  | _, _, .str x => .str x
  | _, _, .lst h a => .lst (sq_same h s) (DpAll.same s a)
  | _, _, .tup h a => .tup (h.elim (fun h => .inl (h.elim (fun h => .inl (s _ _ h)) fun ⟨o, h⟩ => .inr ⟨o, s _ _ h⟩)) fun h => .inr h) (DpAll.same s a)
theorem DpAll.same {K : PySem.W.Frag} {H H' : Hp} (s : Same H H') : ∀ {vs : List V} {ds : List PyData}, DpAll K H vs ds → DpAll K H' vs ds
  | _, _, .nil => .nil
  | _, _, .cons a b => .cons (Dp.same s a) (DpAll.same s b)
end
theorem sqT_same {K : PySem.W.Frag} {a : Addr} {xs : List V} {H H' : Hp} (h : SqT K H a xs) (s : Same H H') : SqT K H' a xs :=
  h.elim (fun h => .inl (h.elim (fun h => .inl (s _ _ h)) fun ⟨o, h⟩ => .inr ⟨o, s _ _ h⟩)) fun h => .inr h
section
variable {K : PySem.W.Frag} {H : Hp}
theorem dp_list {v : V} {ds : List PyData} (h : Dp K H v (.list ds)) : ∃ a xs, v = .ref a ∧ SqL K H a xs ∧ DpAll K H xs ds := by
  cases h with
  | lst h a => exact ⟨_, _, rfl, h, a⟩
theorem dp_tuple {v : V} {ds : List PyData} (h : Dp K H v (.tuple ds)) : ∃ a xs, v = .ref a ∧ SqT K H a xs ∧ DpAll K H xs ds := by
  cases h with
  | tup h a => exact ⟨_, _, rfl, h, a⟩
theorem dp_int {v : V} {n : Int} (h : Dp K H v (.int n)) : v = .int n := by cases h; rfl
theorem dp_str {v : V} {x : Str} (h : Dp K H v (.str x)) : v = .str x := by cases h; rfl
theorem dpAll_len : ∀ {xs : List V} {ds : List PyData}, DpAll K H xs ds → xs.length = ds.length
  | _, _, .nil => rfl
  | _, _, .cons _ t => by rw [List.length_cons, List.length_cons, dpAll_len t]
theorem dpAll_get : ∀ {xs : List V} {ds : List PyData} {i : Nat} {d : PyData}, DpAll K H xs ds → ds[i]? = some d → ∃ x, xs[i]? = some x ∧ Dp K H x d
  | _, _, _, _, .nil, e => by simp at e
  | _, _, 0, _, .cons h _, e => by simp at e; subst e; exact ⟨_, rfl, h⟩
  | _, _, i + 1, d, .cons _ t, e => by
    obtain ⟨x, h1, h2⟩ := dpAll_get (i := i) (d := d) t (by simpa using e)
    exact ⟨x, by simpa using h1, h2⟩
theorem dpAll_back : ∀ {xs : List V} {ds : List PyData} {i : Nat} {x : V}, DpAll K H xs ds → xs[i]? = some x → ∃ d, ds[i]? = some d ∧ Dp K H x d
  | _, _, _, _, .nil, e => by simp at e
  | _, _, 0, _, .cons h _, e => by simp at e; subst e; exact ⟨_, rfl, h⟩
  | _, _, i + 1, x, .cons _ t, e => by
    obtain ⟨d, h1, h2⟩ := dpAll_back (i := i) (x := x) t (by simpa using e)
    exact ⟨d, by simpa using h1, h2⟩
theorem dpAll_app : ∀ {xs ys : List V} {ds es : List PyData}, DpAll K H xs ds → DpAll K H ys es → DpAll K H (xs ++ ys) (ds ++ es)
  | _, _, _, _, .nil, b => b
  | _, _, _, _, .cons h t, b => .cons h (dpAll_app t b)
/-- by places -/
theorem dpAll_of : ∀ {xs : List V} {ds : List PyData}, xs.length = ds.length → (∀ (i : Nat) (x : V) (d : PyData), xs[i]? = some x → ds[i]? = some d → Dp K H x d) → DpAll K H xs ds
  | [], [], _, _ => .nil
  | x :: xs, d :: ds, hl, h => .cons (h 0 x d rfl rfl) (dpAll_of (by simpa using hl) fun i x' d' h1 h2 => h (i + 1) x' d' (by simpa using h1) (by simpa using h2))
def dN (l : List Nat) : List PyData := l.map fun (n : Nat) => PyData.int (n : Int)
def dB (l : List Bool) : List PyData := l.map PyData.bool
theorem dpAll_nV : ∀ l : List Nat, DpAll K H (nV l) (dN l)
  | [] => .nil
  | n :: l => .cons (.int _) (dpAll_nV l)
theorem dpAll_nats : ∀ {l : List Nat} {xs : List V}, DpAll K H xs (dN l) → xs = nV l
  | [], _, .nil => rfl
  | n :: l, _, .cons h t => by rw [dp_int h, dpAll_nats t]; rfl
end
/-- a list or a tuple with these items -/
def Sq (K : PySem.W.Frag) (H : Hp) (v : V) (xs : List V) : Prop := ∃ a, v = .ref a ∧ (SqL K H a xs ∨ SqT K H a xs)
theorem Sq.same {K : PySem.W.Frag} {H H' : Hp} {v : V} {xs : List V} (h : Sq K H v xs) (s : Same H H') : Sq K H' v xs := by
  obtain ⟨a, e, h⟩ := h
  exact ⟨a, e, h.elim (fun h => .inl (sq_same h s)) fun h => .inr (sqT_same h s)⟩
theorem sq_list {K : PySem.W.Frag} {H : Hp} {a : Addr} {xs : List V} (h : SqL K H a xs) : Sq K H (.ref a) xs := ⟨a, rfl, .inl h⟩
theorem sq_tuple {K : PySem.W.Frag} {H : Hp} {a : Addr} {xs : List V} (h : SqT K H a xs) : Sq K H (.ref a) xs := ⟨a, rfl, .inr h⟩
/-- the iterator of a list or a tuple -/
def iSq (K : PySem.W.Frag) (tl : TE) : TI := fun σ H R => tl σ H fun x H1 => ∃ xs H0, Sq K H0 x xs ∧ Same H0 H1 ∧ ∀ J G, Walk J xs.length G (YAt xs) → (∀ H', Same H0 H' → G H') → R J H1
theorem pi_sq {X : Cx} {tg l : Expr} {tl : TE} (hl : PE X l tl) : PI X tg l (iSq X.K tl) := by
  refine ⟨fun pins s σ H R I h => ?_⟩
  refine thn (hl.run pins s σ H _ I h) fun v s1 ⟨x, H1, I1, r1, q1⟩ => ?_
  obtain ⟨xs, H0, ⟨a, e, hq⟩, sm, q⟩ := q1
  subst e
  cases r1
  have fresh : ∀ b, b ∈ [s1.heap.objs.size] → FpOk X pins H1 b := fun b hb => by
    have e : b = s1.heap.objs.size := by simpa using hb
    subst e
    exact I1.fpOk (Nat.le_refl _) (I1.hok.fresh (Nat.le_refl _))
  rcases hq with hq | hq
  · obtain ⟨its, rv, p, hz⟩ := I1.list (sq_same hq sm)
    refine wpAny_pyIter_list p.isList ?_
    exact ⟨s1.heap.objs.size, [s1.heap.objs.size], _, _, H1, rfl, I1.kept (t' := s1.toks) fun b o e => Heap.get?_push_of_some _ e, turn_list a _, ⟨_, Heap.get?_push_size _ rfl, rfl, rfl⟩, fresh, q _ _ walk_list fun H' s' => sq_same hq s'⟩
  · obtain ⟨its, rv, p, hz⟩ := I1.tuple (sqT_same hq sm)
    refine wpAny_pyIter_tuple p ?_
    exact ⟨s1.heap.objs.size, [s1.heap.objs.size], _, _, H1, rfl, I1.kept (t' := s1.toks) fun b o e => Heap.get?_push_of_some _ e, turn_tuple a _, ⟨_, Heap.get?_push_size _ rfl, rfl, rfl⟩, fresh, q _ _ walk_tup fun H' s' => sqT_same hq s'⟩
/-- as what zip or enumerate walks -/
theorem sq_src {K : PySem.W.Frag} {H : Hp} {v : V} {xs : List V} (h : Sq K H v xs) : ∃ y : Src, v = y.val ∧ ∀ H', Same H H' → y.has K H' xs := by
  obtain ⟨a, rfl, h | h⟩ := h
  · exact ⟨.L a, rfl, fun H' s => sq_same h s⟩
  · exact ⟨.T a, rfl, fun H' s => sqT_same h s⟩
theorem tx_src {K : PySem.W.Frag} (l : List Nat) : ∃ y : Src, tx l = y.val ∧ ∀ H', y.has K H' (l.map fun c => tx [c]) := by
  refine ⟨.S (tS l), rfl, fun H' => ?_⟩
  show l.map _ = (tS l).cps.toList.map _
  simp [tS, tx]
section
variable {X : Cx}
/-- x[i] of either -/
theorem ix_sq : IxR X (fun x y H Q => ∃ xs i v, Sq X.K H x xs ∧ y = .int i ∧ atI xs i = some v ∧ Q v H) := by
  intro value slice pins s σ H x y v u Q I rx ry h hs
  obtain ⟨xs, i, w, ⟨a, rfl, h⟩, rfl, hat, q⟩ := h
  rcases h with h | h
  · exact ix_list value slice pins s σ H _ _ v u Q I rx ry ⟨a, xs, i, w, rfl, rfl, h, hat, q⟩ hs
  · exact ix_tup value slice pins s σ H _ _ v u Q I rx ry ⟨a, xs, i, w, rfl, rfl, h, hat, q⟩ hs
/-- text.index(letter) -/
theorem mt_indexT : MtR X "str.index" (fun x xs H Q => ∃ (l : List Nat) (c : Nat), x = tx l ∧ xs = [tx [c]] ∧ c ∈ l ∧ Q (.int ((l.idxOf c : Nat) : Int)) H) := by
  intro pins s σ H x xs v us Q I rx r h
  obtain ⟨l, c, rfl, rfl, hc, q⟩ := h
  rcases StrLaws.occ_head (tS l) (tS [c]) 1 (Nat.le_refl 1) with ⟨_, hn⟩ | ⟨i, rest, ho, hat, hn⟩
  · obtain ⟨j, hj⟩ := List.mem_iff_getElem?.mp hc
    exact absurd ((StrLaws.subAt_one (tS l) c j).mpr (by simpa [tS] using hj)) (hn j)
  · refine mt_sindex pins s σ H _ _ v us Q I rx r ⟨_, _, i, rest, rfl, rfl, ho, ?_⟩
    have h1 : l[i]? = some c := by
      have := (StrLaws.subAt_one (tS l) c i).mp hat
      simpa [tS] using this
    have h2 : ∀ m, m < i → l[m]? ≠ some c := fun m hm z => hn m hm ((StrLaws.subAt_one (tS l) c m).mpr (by simpa [tS] using z))
    have e : l.idxOf c = i := by
      obtain ⟨hi, e1⟩ := List.getElem?_eq_some_iff.mp h1
      have h3 : l.idxOf c < l.length := List.idxOf_lt_length_of_mem hc
      have h4 : l[l.idxOf c] = c := List.getElem_idxOf h3
      rcases Nat.lt_trichotomy (l.idxOf c) i with z | z | z
      · exact absurd (by rw [List.getElem?_eq_getElem h3, h4]) (h2 _ z)
      · exact z
      · exact absurd rfl (idx_first z h1)
    rw [← e] at *
    exact q
theorem op_notInN : OpR X (compareOp .NotIn) (fun x y H Q => ∃ (l : List Nat) (n : Nat), x = .int (n : Int) ∧ Sq X.K H y (nV l) ∧ Q (.bl (!decide (n ∈ l))) H) := by
  intro pins s σ H x y v u Q I rx ry h
  obtain ⟨l, n, rfl, ⟨a, rfl, hS⟩, q⟩ := h
  exact op_notIn_seq pins s σ H _ _ v u Q I rx ry ⟨a, nV l, rfl, hS, rfl, nV_flat l, by rw [nV_in]; exact q⟩
end
structure Wt (d : PyData) (w k : Nat) : Prop where
  s : d.showable = true
  l : d.leavesShort 10 = true
  c : d.canLay0 = true
  w : d.weight ≤ w
  p : d.depth ≤ k
theorem Wt.shw {d : PyData} {w k : Nat} (h : Wt d w k) (hw : w ≤ 1048576) (hk : k ≤ 50) : Shw d :=
  ⟨h.s, PyData.shown_fits (B := 10) (by decide) (by decide) h.l (Nat.le_trans h.w (Nat.le_trans hw (by decide))), Nat.le_trans h.p hk⟩
theorem Wt.shaped {d : PyData} {w k : Nat} (h : Wt d w k) (hk : k ≤ 64) : SeqAt.shaped d = true := by
  show (d.canLay0 && decide (d.depth ≤ 64)) = true
  rw [h.c, decide_eq_true (Nat.le_trans h.p hk)]
  rfl
theorem Wt.mono {d : PyData} {w k w' k' : Nat} (h : Wt d w k) (hw : w ≤ w') (hk : k ≤ k') : Wt d w' k' := ⟨h.s, h.l, h.c, Nat.le_trans h.w hw, Nat.le_trans h.p hk⟩
theorem wt_all {w k : Nat} : ∀ {ds : List PyData}, (∀ d ∈ ds, Wt d w k) → PyData.showableAll ds = true ∧ PyData.leavesShortAll 10 ds = true ∧ PyData.canLayAll0 ds = true ∧ PyData.weightAll ds ≤ (w + 1) * ds.length ∧ PyData.depthAll ds ≤ k
  | [], _ => ⟨rfl, rfl, rfl, Nat.zero_le _, Nat.zero_le _⟩
  | d :: ds, h => by
    have h1 := h d List.mem_cons_self
    obtain ⟨a, b, c, e, f⟩ := wt_all (ds := ds) fun x hx => h x (List.mem_cons_of_mem _ hx)
    refine ⟨?_, ?_, ?_, ?_, ?_⟩
    · show (PyData.showable d && PyData.showableAll ds) = true
      rw [h1.s, a]; rfl
    · show (PyData.leavesShort 10 d && PyData.leavesShortAll 10 ds) = true
      rw [h1.l, b]; rfl
    · show (PyData.canLay0 d && PyData.canLayAll0 ds) = true
      rw [h1.c, c]; rfl
    · show PyData.weight d + 1 + PyData.weightAll ds ≤ _
      have := h1.w
      rw [List.length_cons, Nat.mul_succ]
      omega
    · show max (PyData.depth d) (PyData.depthAll ds) ≤ k
      exact Nat.max_le.mpr ⟨h1.p, f⟩
theorem Wt.list {w k n : Nat} {ds : List PyData} (h : ∀ d ∈ ds, Wt d w k) (hn : ds.length ≤ n) : Wt (.list ds) ((w + 1) * n) (k + 1) := by
  obtain ⟨a, b, c, e, f⟩ := wt_all h
  have hm : (w + 1) * ds.length ≤ (w + 1) * n := Nat.mul_le_mul_left _ hn
  exact ⟨by simpa only [PyData.showable] using a, by simpa only [PyData.leavesShort] using b, by simpa only [PyData.canLay0] using c, by simp only [PyData.weight]; omega, by simp only [PyData.depth]; omega⟩
theorem Wt.tuple {w k n : Nat} {ds : List PyData} (h : ∀ d ∈ ds, Wt d w k) (hn : ds.length ≤ n) : Wt (.tuple ds) ((w + 1) * n) (k + 1) := by
  obtain ⟨a, b, c, e, f⟩ := wt_all h
  have hm : (w + 1) * ds.length ≤ (w + 1) * n := Nat.mul_le_mul_left _ hn
  exact ⟨by simpa only [PyData.showable] using a, by simpa only [PyData.leavesShort] using b, by simpa only [PyData.canLay0] using c, by simp only [PyData.weight]; omega, by simp only [PyData.depth]; omega⟩
theorem Wt.non : Wt .none 0 0 := ⟨rfl, rfl, rfl, by simp [PyData.weight], by simp [PyData.depth]⟩
theorem Wt.bool (b : Bool) : Wt (.bool b) 0 0 := ⟨rfl, rfl, rfl, by simp [PyData.weight], by simp [PyData.depth]⟩
theorem Wt.int {n : Int} (h : n.natAbs < 1000000000) : Wt (.int n) 30 0 := by
  have hlog : n.natAbs.log2 < 30 := by
    by_cases e : n.natAbs = 0
    · rw [e]; decide
    · exact (Nat.log2_lt e).mpr (Nat.lt_trans h (by decide))
  refine ⟨?_, ?_, rfl, ?_, by simp [PyData.depth]⟩
  · simp only [PyData.showable, decide_eq_true_eq]; omega
  · simp only [PyData.leavesShort, decide_eq_true_eq]
    have e := int_text_length_le10 (a := n) (k := 9) (by decide) h
    simp only [PyData.shown]
    rw [PySem.ofString_length]
    omega
  · simp only [PyData.weight]; split <;> omega
theorem Wt.nat {n : Nat} (h : n < 1000000000) : Wt (.int (n : Int)) 30 0 := Wt.int (by omega)
theorem Wt.text {l : List Nat} {n : Nat} (h : ∀ c ∈ l, c < 1114112) (hn : l.length ≤ n) : Wt (.str (tS l)) n 0 := by
  refine ⟨rfl, ?_, ?_, by simpa [PyData.weight, tS] using hn, by simp [PyData.depth]⟩
  · simp only [PyData.leavesShort, List.all_eq_true, decide_eq_true_eq]
    intro c hc
    have := h c (by simpa [tS] using hc)
    have e : 16 ^ 8 = 4294967296 := by decide
    omega
  · show PyData.strOk (tS l) = true
    unfold PyData.strOk
    rw [Array.all_eq_true_iff_forall_mem]
    intro c hc
    exact decide_eq_true (h c (by simpa [tS] using hc))
theorem Wt.nats {l : List Nat} {n : Nat} (h : ∀ c ∈ l, c < 1000000000) (hn : l.length ≤ n) : Wt (.list (dN l)) (31 * n) 1 := by
  refine Wt.list (w := 30) (k := 0) (fun d hd => ?_) (by unfold dN; rw [List.length_map]; exact hn)
  obtain ⟨c, hc, rfl⟩ := List.mem_map.mp hd
  exact Wt.nat (h c hc)
theorem Wt.bools {l : List Bool} {n : Nat} (hn : l.length ≤ n) : Wt (.list (dB l)) n 1 := by
  have := Wt.list (w := 0) (k := 0) (n := n) (ds := dB l) (fun d hd => ?_) (by unfold dB; rw [List.length_map]; exact hn)
  · exact this.mono (by omega) (Nat.le_refl _)
  · obtain ⟨c, hc, rfl⟩ := List.mem_map.mp hd
    exact Wt.bool c
theorem eqv_map {α : Type} [DecidableEq α] (f : α → PyData) (hf : ∀ a b, PyData.eqv (f a) (f b) = decide (a = b)) : ∀ l m : List α, PyData.eqvAll (l.map f) (m.map f) = decide (l = m)
  | [], [] => by simp [PyData.eqvAll]
  | [], b :: m => by simp [PyData.eqvAll]
  | a :: l, [] => by simp [PyData.eqvAll]
  | a :: l, b :: m => by
    show (PyData.eqv (f a) (f b) && PyData.eqvAll (l.map f) (m.map f)) = _
    rw [hf, eqv_map f hf l m]
    by_cases h1 : a = b
    · by_cases h2 : l = m
      · subst h1 h2; simp
      · simp [h2]
    · simp [h1]
end L3
namespace L3
open PySem PySem.Spec PyProof.Rows L2
end L3
namespace L3
open PySem PySem.Spec PyProof.Rows L2
/-- without what stands at D -/
def del (H : Hp) (D : Addr) : Hp := fun b => if b = D then none else H b
theorem del_upd (H : Hp) (D : Addr) (o : HO) : del (upd H D o) D = del H D := by
  funext b; unfold del upd
  by_cases h : b = D
  · rw [if_pos h, if_pos h]
  · rw [if_neg h, if_neg h, if_neg h]
theorem del_none {H : Hp} {D : Addr} (h : H D = none) : del H D = H := by
  funext b; unfold del
  by_cases e : b = D
  · rw [if_pos e, e, h]
  · rw [if_neg e]
theorem del_ne {H : Hp} {D b : Addr} (h : b ≠ D) : del H D b = H b := by unfold del; rw [if_neg h]
theorem del_same (H : Hp) (D : Addr) : Same (del H D) H := fun b o e => by
  unfold del at e
  by_cases h : b = D
  · rw [if_pos h] at e; cases e
  · rw [if_neg h] at e; exact e
theorem same_del {H H' : Hp} {D : Addr} (s : Same H H') (h : H D = none) : Same H (del H' D) := fun b o e => by
  rw [del_ne (ne_of_none e h)]; exact s b o e
theorem del_mono {H H' : Hp} (D : Addr) (s : Same H H') : Same (del H D) (del H' D) := fun b o e => by
  unfold del at e ⊢
  by_cases h : b = D
  · rw [if_pos h] at e; cases e
  · rw [if_neg h] at e ⊢; exact s b o e
/-- data does not look at instances -/
theorem sqL_del {K : PySem.W.Frag} {H : Hp} {x C dx a : Addr} {fs : List (Str × V)} {xs : List V} (hx : H x = some (.ins C dx fs)) (h : SqL K H a xs) : SqL K (del H x) a xs := by
  rcases h with (h | ⟨o, h⟩) | h
  · exact .inl (.inl (by rw [del_ne (ne_of h hx (by intro z; cases z))]; exact h))
  · exact .inl (.inr ⟨o, by rw [del_ne (ne_of h hx (by intro z; cases z))]; exact h⟩)
  · exact .inr h
theorem sqT_del {K : PySem.W.Frag} {H : Hp} {x C dx a : Addr} {fs : List (Str × V)} {xs : List V} (hx : H x = some (.ins C dx fs)) (h : SqT K H a xs) : SqT K (del H x) a xs := by
  rcases h with (h | ⟨o, h⟩) | h
  · exact .inl (.inl (by rw [del_ne (ne_of h hx (by intro z; cases z))]; exact h))
  · exact .inl (.inr ⟨o, by rw [del_ne (ne_of h hx (by intro z; cases z))]; exact h⟩)
  · exact .inr h
theorem sq_del {K : PySem.W.Frag} {H : Hp} {x C dx : Addr} {v : V} {fs : List (Str × V)} {xs : List V} (hx : H x = some (.ins C dx fs)) (h : Sq K H v xs) : Sq K (del H x) v xs := by
  obtain ⟨a, e, h⟩ := h
  exact ⟨a, e, h.elim (fun h => .inl (sqL_del hx h)) fun h => .inr (sqT_del hx h)⟩
mutual
theorem dp_del {K : PySem.W.Frag} {H : Hp} {x C dx : Addr} {fs : List (Str × V)} (hx : H x = some (.ins C dx fs)) : ∀ {v : V} {d : PyData}, Dp K H v d → Dp K (del H x) v d
  | _, _, .non => .non
  | _, _, .bl b => .bl b
  | _, _, .int i => .int i
  | _, _, .str x => .str x
  | _, _, .lst h a => .lst (sqL_del hx h) (dpAll_del hx a)
  | _, _, .tup h a => .tup (sqT_del hx h) (dpAll_del hx a)
theorem dpAll_del {K : PySem.W.Frag} {H : Hp} {x C dx : Addr} {fs : List (Str × V)} (hx : H x = some (.ins C dx fs)) : ∀ {vs : List V} {ds : List PyData}, DpAll K H vs ds → DpAll K (del H x) vs ds
  | _, _, .nil => .nil
  | _, _, .cons a b => .cons (dp_del hx a) (dpAll_del hx b)
end
theorem del_at (H : Hp) (D : Addr) : del H D D = none := by unfold del; rw [if_pos rfl]
/-- a comprehension: Pv of the list so far and the heap without it -/
theorem lc_dp {J : It} {n : Nat} {G : Hp → Prop} {Y : Nat → Hp → V → Hp → Prop} (w : Walk J n G Y) {g : TG} {tt : TT} {te : TE} {vs : List Nat} {σ : L2.St} {H1 : Hp} {D : Addr} {Qd : Hp → Prop} (Pv : Nat → List V → Hp → Prop) (hz : n ≤ sizeLine) (hA : ∀ i acc H, Pv i acc H → acc.length ≤ i)
    (nD : H1 D = none) (h0 : Pv 0 [] H1) (hG : ∀ i acc H, Pv i acc (del H D) → H D = some (.lst acc) → G H)
    (hs : ∀ i x H H' acc (C : VK) (N : Hp → Prop), i < n → Pv i acc (del H D) → H D = some (.lst acc) → Y i H x H' → (∀ v H4, H4 D = some (.lst acc) → Pv (i + 1) (acc ++ [v]) (del H4 D) → C v H4) → (∀ H3, H3 D = some (.lst acc) → Pv (i + 1) acc (del H3 D) → N H3) →
      g x (wipe σ vs) H' fun σ2 H2 => wipe σ2 vs = wipe σ vs ∧ tt σ2 H2 fun b H3 => if b = true then te σ2 H3 C else N H3)
    (hd : ∀ H xs, H D = some (.lst xs) → Pv n xs (del H D) → Qd H) :
    ∃ W : Nat → Nat → Hp → Prop, (∃ m, W 0 m (upd H1 D (.lst []))) ∧ ∀ i m H, W i m H →
      (J.stop i H ∧ Qd H) ∨ (J.go i H ∧ ∃ Nx : Hp → Prop, (∀ H', Nx H' → ∃ m', m' < m ∧ W (i + 1) m' H') ∧ ∀ x H', J.yld i H x H' → g x (wipe σ vs) H' fun σ2 H2 => wipe σ2 vs = wipe σ vs ∧ tt σ2 H2 fun b H3 =>
        if b = true then te σ2 H3 fun y H4 => ∃ acc, H4 D = some (.lst acc) ∧ acc.length < sizeLine ∧ Nx (upd H4 D (.lst (acc ++ [y]))) else Nx H3) := by
  refine lc_it w (fun i H => ∃ acc, H D = some (.lst acc) ∧ Pv i acc (del H D)) ⟨[], upd_same, by rw [del_upd, del_none nD]; exact h0⟩ (fun i H _ p => by obtain ⟨acc, h1, h2⟩ := p; exact hG i acc H h2 h1) (fun i x H H' hi p y => ?_) fun H p => ?_
  · obtain ⟨acc, hD, ha⟩ := p
    refine hs i x H H' acc _ _ hi ha hD y (fun v H4 d4 a4 => ⟨acc, d4, ?_, _, upd_same, by rw [del_upd]; exact a4⟩) (fun H3 d3 a3 => ⟨acc, d3, a3⟩)
    have := hA i acc _ ha
    omega
  · obtain ⟨acc, hD, ha⟩ := p
    exact hd H acc hD ha
/-- .. of data, one item a turn, where all else stays -/
theorem lc_data {K : PySem.W.Frag} {J : It} {n : Nat} {G : Hp → Prop} {Y : Nat → Hp → V → Hp → Prop} (w : Walk J n G Y) {g : TG} {te : TE} {vs : List Nat} {σ : L2.St} {H1 : Hp} {D : Addr} {Qd : Hp → Prop} (ds : List PyData) (hn : ds.length = n) (hz : n ≤ sizeLine)
    (nD : H1 D = none) (hG : ∀ H, Same H1 H → G H)
    (hs : ∀ i x H H' acc d (C : VK), i < n → Same H1 H → H D = some (.lst acc) → Y i H x H' → ds[i]? = some d → (∀ v H4, Same H H4 → Dp K (del H4 D) v d → C v H4) → g x (wipe σ vs) H' fun σ2 H2 => wipe σ2 vs = wipe σ vs ∧ te σ2 H2 C)
    (hgm : ∀ x σ H (Q Q' : L2.St → Hp → Prop), (∀ σ2 H2, Q σ2 H2 → Q' σ2 H2) → g x σ H Q → g x σ H Q')
    (hd : ∀ H xs, Same H1 H → H D = some (.lst xs) → DpAll K (del H D) xs ds → Qd H) :
    ∃ W : Nat → Nat → Hp → Prop, (∃ m, W 0 m (upd H1 D (.lst []))) ∧ ∀ i m H, W i m H →
      (J.stop i H ∧ Qd H) ∨ (J.go i H ∧ ∃ Nx : Hp → Prop, (∀ H', Nx H' → ∃ m', m' < m ∧ W (i + 1) m' H') ∧ ∀ x H', J.yld i H x H' → g x (wipe σ vs) H' fun σ2 H2 => wipe σ2 vs = wipe σ vs ∧ tYes σ2 H2 fun b H3 =>
        if b = true then te σ2 H3 fun y H4 => ∃ acc, H4 D = some (.lst acc) ∧ acc.length < sizeLine ∧ Nx (upd H4 D (.lst (acc ++ [y]))) else Nx H3) := by
  refine lc_dp w (fun i acc H => Same H1 H ∧ DpAll K H acc (ds.take i)) hz (fun i acc H p => ?_) nD ⟨Same.refl _, .nil⟩ (fun i acc H p _ => hG H (p.1.trans (del_same _ _))) (fun i x H H' acc C N hi p hD y c nn => ?_) (fun H xs hD p => ?_)
  · rw [dpAll_len p.2, List.length_take]; omega
  · have hlt : i < ds.length := by omega
    refine hgm _ _ _ _ _ (fun σ2 H2 h => ⟨h.1, yes_te h.2⟩) (hs i x H H' acc ds[i] C hi (p.1.trans (del_same _ _)) hD y (List.getElem?_eq_getElem hlt) fun v H4 s4 d4 => ?_)
    have s5 := del_mono D s4
    refine c v H4 (s4 _ _ hD) ⟨p.1.trans s5, ?_⟩
    rw [List.take_add_one, List.getElem?_eq_getElem hlt]
    exact dpAll_app (DpAll.same s5 p.2) (.cons d4 .nil)
  · have e : ds.take n = ds := by rw [← hn]; exact List.take_length
    rw [e] at p
    exact hd H xs (p.1.trans (del_same _ _)) hD p.2
theorem gName_mono {i : Nat} : ∀ x σ H (Q Q' : L2.St → Hp → Prop), (∀ σ2 H2, Q σ2 H2 → Q' σ2 H2) → gName i x σ H Q → gName i x σ H Q' := fun _ _ _ _ _ h q => h _ _ q
end L3
namespace L3
open PySem PySem.Spec PyProof.Rows L2
section
variable {X : Cx} {K : PySem.W.Frag}
theorem ix_listK (h : X.K = K) : IxR X (rIxL K) := h ▸ ix_list
theorem ix_tupK (h : X.K = K) : IxR X (rIxT K) := h ▸ ix_tup
theorem call_len_seqK (h : X.K = K) : CallR X (.builtin "len") (fun xs H Q => ∃ p ys, xs = [.ref p] ∧ (SqL K H p ys ∨ SqT K H p ys) ∧ Q (.int ys.length) H) := h ▸ call_len_seq
theorem call_list_ofK (h : X.K = K) : CallR X (.type "list") (fun xs H Q => ∃ p ys, xs = [.ref p] ∧ (SqL K H p ys ∨ SqT K H p ys) ∧ ∀ l, H l = none → Q (.ref l) (upd H l (.lst ys))) := h ▸ call_list_of
theorem call_tuple_ofK (h : X.K = K) : CallR X (.type "tuple") (fun xs H Q => ∃ p ys, xs = [.ref p] ∧ ((SqL K H p ys ∧ ∀ l, H l = none → Q (.ref l) (upd H l (.tup ys))) ∨ (SqT K H p ys ∧ Q (.ref p) H))) := h ▸ call_tuple_of
theorem op_neDK (h : X.K = K) (hu : X.A.units + 64 < cLine) : OpR X (compareOp .NotEq) (rNeD K) := h ▸ op_neD hu
theorem pi_listK {tg l : Expr} {tl : TE} (h : X.K = K) (hl : PE X l tl) : PI X tg l (iList K tl) := h ▸ pi_list hl
variable {C f : Addr} {fd : FuncData} {k : Nat} {sp : Sp} {y : Str}
end
end L3
namespace L3
open PySem PySem.Spec PyProof.Rows L2
end L3
namespace L3
open PySem PySem.Spec PyProof.Rows L2
end L3
namespace L3
open PySem PySem.Spec PyProof.Rows L2 Builtin Builtin.ObjectAttr
/-- what stands around a run -/
structure ErrW (K : PySem.W.Frag) (mg : Str → Option Value) (h : Heap) : Prop where
  kin : K.In h
  glob : h.Ns mainGlobals mg
  blt : ∃ mb, h.Ns builtinsNs mb ∧ mb "super" = some (.type "super")
section
variable {P : Program} {w : World} {A : Around} {E : Value → Shared → Prop} {K : PySem.W.Frag} {mg : Str → Option Value} {C fI : Addr} {B newId initId : String} {bmB : List Value} {ps : List Str} {params : Arguments} {body : List Stmt} {scope : Scope}
theorem ErrW.keeps {h h' : Heap} (W : ErrW K mg h) (k : ∀ b o, h.get? b = some o → h'.get? b = some o) : ErrW K mg h' := by
  obtain ⟨mb, h1, h2⟩ := W.blt
  exact ⟨W.kin.keeps k, W.glob.keeps k, mb, h1.keeps k, h2⟩
end
end L3
namespace L3
open PySem PySem.Spec PyProof.Rows L2
end L3
namespace L3
open PySem PySem.Spec PyProof.Rows L2
open MeetsSeq MeetsSeq2 MeetsSeq3 SeqRoads2
open AutoSeq1 (wpAny_loadPart')
/-- x == y answers b, and nothing changes -/
def EqStep (X : Cx) (H : Hp) (x y : V) (b : Bool) : Prop := ∀ (pins : List (Addr × Obj)) (s : Shared) (σ : L2.St) (H' : Hp) (u v : Value) (Q : Bool → Shared → Prop) (E' : Value → Shared → Prop), L2.Inv X pins σ H' s → Same H H' → RelV x u → RelV y v →
  (∀ H'' s', L2.Inv X pins σ H'' s' → Same H' H'' → Q b s') → wpAny (model X.prog X.w) X.A.in1 (eqBool u v) Q E' s
section
variable {X : Cx} {C f : Addr} {fd : FuncData} {k : Nat} {sp : Sp} {y : Str}
theorem EqStep.own {H : Hp} {a b : Addr} {z : Bool} (F : FnOkG X.prog X.w X.K X.mg X.base CX0 k f fd ["self", y] sp) (hr : Room (k + 1) X.A) (hG : X.A.guards = some []) (hb : L2.Binds X.K fd ["self", y] []) (m : Meth X.K C "__eq__" f) (hne : a ≠ b)
    (hn : PySem.W.notFirst X.K C (.ref C) = true) (h : ∀ H', Same H H' → (∃ dx fs, H' a = some (.ins C dx fs)) ∧ (∃ dx fs, H' b = some (.ins C dx fs)) ∧ sp [.ref a, .ref b] H' (fun v H'' => v = .bl z ∧ Same H' H'') E0) : EqStep X H (.ref a) (.ref b) z := by
  intro pins s σ H' u v Q E' I sm r1 r2 hQ
  cases r1
  cases r2
  obtain ⟨⟨dx, fs, ha⟩, ⟨dy, gs, hb'⟩, h⟩ := h H' sm
  obtain ⟨mA, O, _⟩ := ins_get I.hok ha
  obtain ⟨od, J, _⟩ := O.look
  obtain ⟨mB, O2, _⟩ := ins_get I.hok hb'
  obtain ⟨od2, J2, _⟩ := O2.look
  obtain ⟨mm, FF⟩ := I.fr
  unfold eqBool
  refine wpAny_holding ?_
  refine wpAny_ite_split (fun hab => absurd (by have := eq_of_beq hab; injection this) hne) (fun _ => ?_)
  refine wpAny_bind ?_
  have hu := hr.units
  refine PySem.W.cmp_K (op := .Eq) (by show X.A.units + 1 < cLine; omega) FF I.ok.mod.kin J J2.type hn m.at_ m.fn ?_
  refine run_own (vs := [.ref a, .ref b]) (us := [.ref a, .ref b]) F hr hG hb I (.cons rfl (.cons rfl .nil)) h fun w s' hq => ?_
  obtain ⟨v, H2, I2, rv, rfl, sm2⟩ := hq
  cases rv
  exact (show wpAny _ _ (truthy (.bool z)) _ _ _ from wpAny_truthy_bool (hQ H2 s' I2 sm2))
end
end L3
namespace L3
open PySem PySem.Spec PyProof.Rows L2
/-- each list whose repr is under way holds an own object -/
def GOk (H : Hp) (g : List Code) : Prop := ∀ id v rest kw, Code.builtin id ⟨v :: rest, kw⟩ ∈ g → ∃ (l m C dx : Addr) (xs : List V) (fs : List (Str × V)), v = .ref l ∧ H l = some (.lst xs) ∧ V.ref m ∈ xs ∧ H m = some (.ins C dx fs)
theorem GOk.nil (H : Hp) : GOk H [] := fun _ _ _ _ h => nomatch h
theorem GOk.same {H H' : Hp} {g : List Code} (h : GOk H g) (s : Same H H') : GOk H' g := fun id v rest kw hm => by
  obtain ⟨l, m, C, dx, xs, fs, h1, h2, h3, h4⟩ := h id v rest kw hm
  exact ⟨l, m, C, dx, xs, fs, h1, s _ _ h2, h3, s _ _ h4⟩
theorem GOk.cons {H : Hp} {g : List Code} {id : String} {rest : List Value} {kw : List (Str × Value)} {l m C dx : Addr} {xs : List V} {fs : List (Str × V)} (h : GOk H g) (h2 : H l = some (.lst xs)) (h3 : V.ref m ∈ xs) (h4 : H m = some (.ins C dx fs)) : GOk H (.builtin id ⟨.ref l :: rest, kw⟩ :: g) := fun id' v' rest' kw' hm => by
  rcases List.mem_cons.mp hm with e | hm
  · cases e
    exact ⟨l, m, C, dx, xs, fs, rfl, h2, h3, h4⟩
  · exact h _ _ _ _ hm
theorem reads_mem {h : Heap} : ∀ {vs : List Value} {ds : List PyData} {as : List Addr}, ReadsAll h vs ds as → ∀ v ∈ vs, ∃ d as', Reads h v d as'
  | _, _, _, .nil, v, hv => nomatch hv
  | _, _, _, .cons r rs, v, hv => by
    rcases List.mem_cons.mp hv with rfl | hv
    · exact ⟨_, _, r⟩
    · exact reads_mem rs v hv
theorem vals_mem : ∀ {xs : List V} {us : List Value}, Vals xs us → ∀ {m : Addr}, V.ref m ∈ xs → Value.ref m ∈ us
  | _, _, .nil, m, h => nomatch h
  | _, _, .cons r t, m, h => by
    rcases List.mem_cons.mp h with e | h
    · subst e
      cases r
      exact List.mem_cons_self
    · exact List.mem_cons_of_mem _ (vals_mem t h)
section
variable {X : Cx} {pins : List (Addr × Obj)} {σ : L2.St} {H : Hp} {s : Shared} {g : List Code}
/-- what can be read as data is none of these lists -/
theorem gok_clear (I : L2.Inv X pins σ H s) (hg : GOk H g) {b : Addr} {d : PyData} {as : List Addr} (r : Reads s.heap (.ref b) d as) : Clear g b := fun id v rest kw hm z => by
  obtain ⟨l, m, C, dx, xs, fs, h1, h2, h3, h4⟩ := hg id v rest kw hm
  rw [h1] at z
  obtain rfl := Value.ref.inj z
  obtain ⟨_, its, n, rv, hl⟩ := I.hok _ _ h2
  obtain ⟨mA, O, _⟩ := ins_get I.hok h4
  have hm' := vals_mem rv h3
  have hmo : s.heap.get? m = some (PySem.W.instObj C dx) := by
    obtain ⟨_, _, _, q, _⟩ := I.hok _ _ h4
    exact q
  cases r with
  | list q1 q2 q3 q4 =>
    rw [hl] at q1
    cases q1
    have e3 : Data.seq its.toArray n = Data.seq _ _ := q3
    cases e3
    obtain ⟨d', as', r'⟩ := reads_mem q4 (.ref m) (by simpa using hm')
    cases r' with
    | list w1 w2 _ _ => rw [hmo] at w1; cases w1; cases w2
    | tuple w1 w2 _ _ => rw [hmo] at w1; cases w1; cases w2
    | dict w1 w2 _ _ _ => rw [hmo] at w1; cases w1; cases w2
  | tuple q1 q2 q3 q4 => rw [hl] at q1; cases q1; exact absurd (Value.type.inj q2) (by decide)
  | dict q1 q2 q3 q4 q5 => rw [hl] at q1; cases q1; exact absurd (Value.type.inj q2) (by decide)
end
/-- an around that stands under X.A, with the guards g -/
structure AIn (X : Cx) (k : Nat) (g : List Code) (A : Around) : Prop where
  room : Room k A
  gd : A.guards = some g
  env : ∀ {pins : List (Addr × Obj)} {σ : L2.St} {H : Hp} {s : Shared}, L2.Inv X pins σ H s → Env0 X.prog X.w X.K X.mg X.base A X.stack s H
theorem AIn.base {X : Cx} {k : Nat} {g : List Code} (hr : Room k X.A) (hg : X.A.guards = some g) : AIn X k g X.A := ⟨hr, hg, fun I => I.env0⟩
theorem AIn.in1 {X : Cx} {k : Nat} {g : List Code} {A : Around} (h : AIn X (k + 1) g A) : AIn X k g A.in1 := ⟨h.room.in1, h.gd, fun I => (h.env I).in1⟩
theorem AIn.mono {X : Cx} {j k : Nat} {g : List Code} {A : Around} (h : AIn X k g A) (hj : j ≤ k) : AIn X j g A := ⟨h.room.mono hj, h.gd, h.env⟩
/-- repr(x) is t, and nothing changes -/
def ReprStep (X : Cx) (k : Nat) (H : Hp) (x : V) (t : Str) : Prop := ∀ (base : Nat) (A : Around) (g : List Code) (pins : List (Addr × Obj)) (s : Shared) (σ : L2.St) (H' : Hp) (u : Value) (Q : Str → Shared → Prop) (E' : Value → Shared → Prop), base + t.length ≤ sizeLine → AIn X k g A → GOk H' g → L2.Inv X pins σ H' s → Same H H' → RelV x u →
  (∀ H'' s', L2.Inv X pins σ H'' s' → Same H' H'' → Q t s') → wpAny (model X.prog X.w) A (pyReprUnder base u) Q E' s
section
variable {X : Cx} {k : Nat} {H : Hp}
theorem ReprStep.data {x : V} {d : PyData} (hd : Dp X.K H x d) (hs : d.showable = true) (hz : d.shown.length ≤ sizeLine) (hp : d.depth ≤ 50) : ReprStep X k H x d.shown := by
  intro base A g pins s σ H' u Q E' hb hA hg I sm rx hQ
  have hd' := Dp.same sm hd
  obtain ⟨as, r⟩ := Dp.reads I d x u hd' rx
  obtain ⟨bs, hbs, hk⟩ := ReprK.of_reads (prog := X.prog) (w := X.w) r hs (PyData.noDict_hsm (dp_noDict (K := X.K) (H := H') hd')) hz
  have hu := hA.room.units
  refine hk base hb A g E' s Q hA.gd (fun b hbm => ?_) (by omega) (fun _ _ e => e) fun h' tk kk => hQ H' _ (I.kept kk) (Same.refl _)
  obtain ⟨d', as', r', _⟩ := hbs b hbm
  exact gok_clear I hg r'
end
/-- a def that is called while reprs are under way -/
structure FnOkH (P : Program) (w : World) (K : PySem.W.Frag) (mg : Str → Option Value) (base : Heap) (CX : CXT) (k : Nat) (f : Addr) (fd : FuncData) (ps : List Str) (sp : Sp) : Prop where
  len : ∀ vs H Q E, sp vs H Q E → vs.length = ps.length
  run : ∀ (A : Around) (outer : List Env) (s : Shared) (H : Hp) (args : Args) (us : List Value) (vs : List V) (Q : VK) (E : XK) (g : List Code), Room k A → A.guards = some g → GOk H g → Env0 P w K mg base A outer s H → BindsTo s fd args (ps.zip us) → Vals vs us → sp vs H Q E →
    codeAny (model P w) A (.call (.ref f) args) (CR CX outer P w H s Q E) s
section
variable {X : Cx} {C f : Addr} {fd : FuncData} {k : Nat} {sp : Sp} {H : Hp}
theorem ReprStep.own {a : Addr} {t : Str} (F : FnOkH X.prog X.w X.K X.mg X.base CX0 k f fd ["self"] sp) (hb : L2.Binds X.K fd ["self"] []) (m : Meth X.K C "__repr__" f)
    (h : ∀ H', Same H H' → (∃ dx fs, H' a = some (.ins C dx fs)) ∧ sp [.ref a] H' (fun v H'' => v = .str t ∧ Same H' H'') E0) (hz : t.length ≤ sizeLine) : ReprStep X k H (.ref a) t := by
  intro base A g pins s σ H' u Q E' hbs hA hg I sm rx hQ
  cases rx
  obtain ⟨⟨dx, fs, ha⟩, h⟩ := h H' sm
  obtain ⟨mA, O, _⟩ := ins_get I.hok ha
  obtain ⟨od, J, _⟩ := O.look
  have X1 := I.kIn
  have hu := hA.room.units
  have hrun : wpAny (model X.prog X.w) A (call (.ref f) [.ref a]) (fun v s' => ∃ H'' tk, v = .str t tk ∧ L2.Inv X pins σ H'' s' ∧ Same H' H'') E' s := by
    have hl : ([Value.ref a] ++ []).length = ["self"].length := rfl
    have hb' : BindsTo s fd ⟨[.ref a], []⟩ ([("self" : Str)].zip [Value.ref a]) := hb s [.ref a] I.kIn rfl
    refine wpAny_call (codeAny_mono (F.run A X.stack s H' ⟨[.ref a], []⟩ [.ref a] [.ref a] _ E0 g hA.room hA.gd hg (hA.env I) hb' (.cons rfl .nil) h) fun r s' hq => ?_)
    cases r with
    | error e => exact (show False from hq).elim
    | ok fl =>
      cases fl with
      | ret w =>
        obtain ⟨v, H2, I2, rv, rfl, sm2⟩ := I.after hq
        obtain ⟨tk, rfl⟩ := rv
        exact ⟨H2, tk, rfl, I2, sm2⟩
      | next => exact False.elim hq
      | brk => exact False.elim hq
      | cont => exact False.elim hq
  refine wpAny_pyReprUnder_ref (by omega) ?_
  unfold pyReprObjUnder pyReprObjBy
  refine wpAny_bind (wpAny_cRoomFor (by omega) ?_)
  refine wpAny_bind (wpAny_bind (J.type.here ((PySem.W.looks_findIn X1 m.at_).here ?_)))
  show wpAny _ _ (if (some (Value.ref f)).isNone = true then _ else _) _ _ _
  rw [if_neg (by simp)]
  refine wpAny_bind ?_
  simp only [callSpecialIfBoundBy?, bindSpecialIfBound?]
  refine wpAny_holding (wpAny_bind (wpAny_bind (wpAny_bind (J.type.here ((PySem.W.looks_findIn X1 m.at_).here ?_)))))
  refine wpAny_bind (wpAny_askSetting (wpAny_ite ?_))
  have last : ∀ (Q' : Option Value → Shared → Prop), (∀ H'' s' tk, L2.Inv X pins σ H'' s' → Same H' H'' → Q' (some (.str t tk)) s') → wpAny (model X.prog X.w) A ((match reprUnder? (.ref f), [Value.ref a] with | some twin, [self] => call twin [self, rawInt base] | _, _ => call (.ref f) ([Value.ref a] ++ [])) >>= fun v => pure (some v)) Q' E' s := fun Q' hQ' => by
    refine wpAny_bind (wpAny_mono hrun (fun v s' hv => ?_) fun _ _ e => e)
    obtain ⟨H'', tk, rfl, I2, sm2⟩ := hv
    exact wpAny_pure (hQ' H'' s' tk I2 sm2)
  have fin : ∀ H'' s' tk, L2.Inv X pins σ H'' s' → Same H' H'' → wpAny (model X.prog X.w) A (do if ← isInstance (.str t tk) (.type "str") then pure (Value.str t tk) else raiseError "TypeError" s!"__repr__ returned non-string (type {← typeNameOf (.str t tk)})") (fun v s'' => ∃ x u, v = .str x u ∧ Q x s'') E' s' := fun H'' s' tk I2 sm2 => by
    refine wpAny_bind (wpAny_isInstance (typeIs_str _ _ _) isSubtype_str_str ?_)
    rw [if_pos rfl]
    exact wpAny_pure ⟨t, tk, rfl, hQ H'' s' I2 sm2⟩
  split
  · exact wpAny_bind ((PySem.W.bind_fn X1 _ (beq_iff_eq.mp m.fn)).here (wpAny_pure (last _ fun H'' s' tk I2 sm2 => fin H'' s' tk I2 sm2)))
  · exact wpAny_tryCatch (wpAny_bind ((PySem.W.bind_fn X1 _ (beq_iff_eq.mp m.fn)).here (wpAny_pure (last _ fun H'' s' tk I2 sm2 => fin H'' s' tk I2 sm2))))
end
end L3
namespace L3
open PySem PySem.Spec PyProof.Rows L2
open Builtin Builtin.List
/-- a record of ours that may change -/
structure Mine (X : Cx) (pins : List (Addr × Obj)) (P : Addr) : Prop where
  new : X.s_0.heap.objs.size ≤ P
  cell : ∀ x c, X.env.cells.lookup x = some c → c ≠ P
  pin : ∀ p ∈ X.pn ++ pins, p.1 ≠ P
section
variable {X : Cx} {pins : List (Addr × Obj)} {σ : L2.St} {H : Hp} {s : Shared} {P : Addr}
theorem Mine.of (I : L2.Inv X pins σ H s) (hP : s.heap.objs.size ≤ P) : Mine X pins P := by
  refine ⟨Nat.le_trans I.sz hP, fun x c e z => ?_, fun p hp z => ?_⟩
  · obtain ⟨v, o, hv, _⟩ := I.cell x c e
    rw [z] at hv
    exact absurd (Heap.lt_size hv) (Nat.not_lt.mpr hP)
  · obtain ⟨q, _⟩ := I.pin p hp
    rw [z] at q
    exact absurd (Heap.lt_size q) (Nat.not_lt.mpr hP)
end
end L3
namespace L3
open PySem PySem.Spec PyProof.Rows L2
def keyD : Key → PyData
  | .inl i => .int i
  | .inr x => .str x
end L3
namespace L3
open PySem PySem.Spec PyProof.Rows L2
mutual
inductive DpD (K : PySem.W.Frag) (H : Hp) : V → PyData → Prop
  | data {v : V} {d : PyData} : Dp K H v d → DpD K H v d
  | lst {a : Addr} {xs : List V} {ds : List PyData} : SqL K H a xs → DpDs K H xs ds → DpD K H (.ref a) (.list ds)
  | tup {a : Addr} {xs : List V} {ds : List PyData} : SqT K H a xs → DpDs K H xs ds → DpD K H (.ref a) (.tuple ds)
  | dct {a : Addr} {kvs : List (Key × V)} {ds : List PyData} {kd : List (PyData × PyData)} : H a = some (.dK kvs) → DpDs K H (kvs.map (·.2)) ds → kd = (kvs.map fun kv => keyD kv.1).zip ds → DpD K H (.ref a) (.dict kd)
inductive DpDs (K : PySem.W.Frag) (H : Hp) : List V → List PyData → Prop
  | nil : DpDs K H [] []
  | cons {v : V} {vs : List V} {d : PyData} {ds : List PyData} : DpD K H v d → DpDs K H vs ds → DpDs K H (v :: vs) (d :: ds)
end
theorem DpDs.len {K : PySem.W.Frag} {H : Hp} : ∀ {vs : List V} {ds : List PyData}, DpDs K H vs ds → vs.length = ds.length
  | _, _, .nil => rfl
  | _, _, .cons _ t => congrArg (· + 1) t.len
end L3
namespace L3
open PySem PySem.Spec PyProof.Rows L2 PpSet
end L3
namespace L3
open PySem PySem.Spec PyProof.Rows L2
end L3
namespace L3
open PySem PySem.Spec PyProof.Rows L2
def k4 {α : Type} : List α → List α → List α
  | [], [w, v, u, t] => [t, u, v, w]
  | _, _ => []
end L3
namespace L3
open PySem PySem.Spec PyProof.Rows L2
/-- C.m is a static method: its record at p, its def at g -/
structure SMet (K : PySem.W.Frag) (C : Addr) (mc : Value) (m : Str) (p g : Addr) : Prop where
  at_ : PySem.W.findCls K (.ref C) mc m = some (.get (.builtin "staticmethod.__get__") (.ref p) .none (.ref C))
  rc : ∃ rest, PySem.W.recIn K p "staticmethod" = some (.ref g :: rest)
  kp : PySem.W.keepIn K (.ref g) = true
/-- C.m(..), m a static method of the class at C -/
def tSMeth (C : Addr) (sp : Sp) (E : XK) (tc : TE) (ts : TA) : TE := fun σ H Q => tc σ H fun x H1 => x = .ref C ∧ ts σ H1 fun vs H2 => sp vs H2 Q E
section
variable {X : Cx} {CX : CXT} {k : Nat} {C p g : Addr} {mc : Value} {sp : Sp} {E : XK} {o e : Expr} {es : List Expr} {m : Str} {pos apos : Pos} {ta : TE} {t tk : TA} {pl : Sem Bool} {fd : FuncData} {ps ks : List Str} {kws : List Keyword} {gg : List Value → List Value → List Value} {gV : List V → List V → List V}
theorem sm_meth {pins : List (Addr × Obj)} {σ : L2.St} {H : Hp} {s : Shared} {A : Around} {EE : Value → Shared → Prop} {QQ : Value × List Value → Shared → Prop} (I : L2.Inv X pins σ H s) (r : ClX.CRead X.K C mc) (c : SMet X.K C mc m p g) (h : ∀ s', L2.Inv X pins σ H s' → QQ (.ref g, []) s') :
    wpAny (model X.prog X.w) A (getMethod (.ref C) m pl) QQ EE s := by
  obtain ⟨rest, hp⟩ := c.rc
  refine PySem.W.method_cls I.kIn r.ga (PySem.W.cls_bind I.kIn r.rd c.at_ (wpAny_call ?_))
  exact PySem.W.sm_get (s := { s with toks := s.toks + 1 }) I.kIn hp (PySem.W.handed_on rfl (h _ (I.tok _)))
theorem pe_smeth (hC : PE X o ta) (r : ClX.CRead X.K C mc) (c : SMet X.K C mc m p g) (F : FnOk X.prog X.w X.K X.mg X.base CX k g fd ps sp) (room : Room k X.A) (hb : L2.Binds X.K fd ps []) (hx : Passes CX X E) (hargs : PA X (e :: es) t)
    (hs1 : starEach (e :: es) X.env = (false, eval e X.env) :: starEach es X.env := by rfl) (hp1 : (backTo pos (starEach es X.env)).any (·.1) = false := by rfl)
    (hev : eval (.Call (.Attribute o m apos) (e :: es) [] pos) X.env = (do
      let ob ← eval o X.env
      standAt apos.atName
      let (fn, fst) ← holding [ob] (getMethod ob m pl)
      callWith pos fn fst (backTo pos (starEach (e :: es) X.env)) (backToKw pos (keywordEach [] X.env))) := by rfl) :
    PE X (.Call (.Attribute o m apos) (e :: es) [] pos) (tSMeth C sp E ta t) := by
  refine ⟨fun pins s σ H Q I h => PySem.W.methodCall_KW (pl := pl) (thn (hC.run pins s σ H _ I h) fun u s1 ⟨x, H1, I1, rx, ex, q⟩ => ?_) hev⟩
  subst ex
  obtain rfl : u = Value.ref C := rx
  refine sm_meth I1 r c fun s2 I2 => ?_
  refine PySem.W.callWith_K (h₀ := X.base) I.ok.mod.kin c.kp (thn (hargs.run pos pins s2 σ H1 _ I2 q) fun us s3 ⟨vs, H2, I3, rv, q2⟩ => ⟨I3.kIn, ?_⟩) hs1 hp1
  exact run_fn (vs := vs) (dvs := []) F room hb .nil hx I3 rv (by rw [List.append_nil]; exact q2)
end
def s3 {α : Type} : List α → List α → List α
  | [], [w, v, u] => [u, v, w]
  | _, _ => []
def n3 {α : Type} : List α → List α → List α
  | [s], [w, v, u] => [s, v, u, w]
  | _, _ => []
end L3
namespace L3
open PySem PySem.Spec PyProof.Rows L2 LamX
end L3
namespace L3
open PySem PySem.Spec PyProof.Rows L2
theorem joinE {te : TE} {σ : L2.St} {H : Hp} {Q : VK} (R : V → Hp → Prop) (h : ∀ Q' : VK, (∀ v H', R v H' → Q' v H') → te σ H Q') (k : ∀ v H', R v H' → Q v H') : te σ H Q := h Q k
end L3
namespace L3
open PySem PySem.Spec PyProof.Rows L2 LamX NdefX
/-- the function at f is F, its code object stands -/
def FnAt2 (f : Addr) (F : NF) (H : Hp) : Prop := H f = some (FnO f F) ∧ H F.c = some (CodeO F.c F.qual)
theorem FnAt2.same {f : Addr} {F : NF} {H H' : Hp} (s : Same H H') (h : FnAt2 f F H) : FnAt2 f F H' := ⟨s _ _ h.1, s _ _ h.2⟩
end L3
namespace L3
open PySem PySem.Spec PyProof.Rows L2 Builtin Builtin.ObjectAttr
end L3
namespace L3
open PySem PySem.Spec PyProof.Rows L2 Builtin Builtin.ObjectAttr
end L3
namespace L3
open PySem PySem.Spec PyProof.Rows L2
end L3
namespace L3
open PySem PySem.Spec PyProof.Rows L2
/-- a clause: the class it names, the slot of its name, what its suite does -/
structure Cls1 where
  c : Value
  slot : Option Nat
  ts : Addr → Value → Option Addr → TS
def Cls1.ends (k : Cls1) (D : Ends) : Ends := match k.slot with
  | none => D
  | some i => ⟨fun τ G => D.nx (τ.set i none) G, D.rt, fun τ G => D.bk (τ.set i none) G, fun τ G => D.ct (τ.set i none) G⟩
def Cls1.start (k : Cls1) (a : Addr) (σ : L2.St) : L2.St := match k.slot with
  | none => σ
  | some i => σ.set i (some (.ref a))
/-- what the clauses wish of an error of the body -/
def wMix (K : PySem.W.Frag) (Wout : WX) (D : Ends) : List Cls1 → WX
  | [] => Wout
  | k :: r => fun cls d σ H => ∃ b, PySem.W.exmOne K cls k.c = some b ∧ (b = true → ∀ a, H a = none → k.ts a cls d (k.ends D) (k.start a σ) H) ∧ (b = false → wMix K Wout D r cls d σ H)
/-- a suite that holds an error -/
def SuOk (X : Cx) (b₀ : Stmt) (su : List Stmt) (ts : Addr → Value → Option Addr → TS) : Prop := ∀ (a : Addr) (oe : Obj) (cls : Value) (d : Option Addr) (pn : List (Addr × Obj)), Zc cls d oe → (∃ vs, oe.data = .fields vs) → PSs (X.suite a ((a, oe) :: pn)) (b₀ :: su) (ts a cls d)
inductive MixOk (X : Cx) : List ExceptHandler → List Cls1 → Prop
  | nil : MixOk X [] []
  | bare {x : Str} {c : Value} {ts : Addr → Value → Option Addr → TS} {b₀ : Stmt} {su : List Stmt} {p1 p2 : Pos} {hs : List ExceptHandler} {l : List Cls1} : Names X x c → SuOk X b₀ su ts → MixOk X hs l → MixOk X (.ExceptHandler (some (.Name x p1)) none (b₀ :: su) p2 :: hs) (⟨c, none, ts⟩ :: l)
  | named {x n : Str} {i : Nat} {c : Value} {ts : Addr → Value → Option Addr → TS} {b₀ : Stmt} {su : List Stmt} {p1 p2 : Pos} {hs : List ExceptHandler} {l : List Cls1} : Names X x c → X.N[i]? = some n → X.env.kindOf n = some .local → SuOk X b₀ su ts → MixOk X hs l → MixOk X (.ExceptHandler (some (.Name x p1)) (some n) (b₀ :: su) p2 :: hs) (⟨c, some i, ts⟩ :: l)
section
variable {X : Cx} {pins : List (Addr × Obj)} {σ : L2.St} {H : Hp} {a : Addr} {cls : Value} {d : Option Addr} {B g : Heap} {sI s : Shared}
/-- an error that flies over this frame -/
structure Fly (X : Cx) (pins : List (Addr × Obj)) (σ : L2.St) (H : Hp) (a : Addr) (cls : Value) (d : Option Addr) (B : Heap) (sI s : Shared) (g : Heap) : Prop where
  J : L2.Inv X pins σ H sI
  nb : ∀ b o, sI.heap.get? b = some o → b ∉ frs X.stack → B.get? b = some o
  up : sI.heap.UpToSlots g
  fl : HandSPX.FlyingZ B (X.env :: X.outer) a (Zc cls d) g
  na : H a = none
  os : s.os = sI.os
  ag : AllBare s.gens
theorem Fly.inv (F : Fly X pins σ H a cls d B sI s g) : L2.Inv X pins σ H { s with heap := g } := F.J.landed F.nb F.fl.1 F.up F.os F.ag
theorem Fly.suite (F : Fly X pins σ H a cls d B sI s g) (hf : X.env.frame = some X.env.locals) : ∃ (oe : Obj) (vs : Array Value), g.get? a = some oe ∧ Zc cls d oe ∧ oe.data = .fields vs ∧ L2.Inv (X.suite a ((a, oe) :: (X.pn ++ pins))) [] σ H { s with heap := g } := by
  obtain ⟨oe, vs, h1, h2, h3⟩ := F.fl.there
  have out : a ∉ frs (X.env :: X.outer) := fun m => by
    obtain ⟨_, u, e, no⟩ := F.fl.2.2.1.mem m
    rw [h1] at e
    cases e
    exact no _ h3
  refine ⟨oe, vs, h1, h2, h3, F.inv.suite h1 h3 F.na (fun z => out ?_) fun m => out ?_⟩
  · exact List.mem_filterMap.mpr ⟨_, List.mem_cons_self, by rw [hf, z]⟩
  · obtain ⟨v, m1, m2⟩ := List.mem_filterMap.mp m
    exact List.mem_filterMap.mpr ⟨v, List.mem_cons_of_mem _ m1, m2⟩
/-- the class of a clause is asked -/
theorem Fly.asked (F : Fly X pins σ H a cls d B sI s g) (hf : X.env.frame = some X.env.locals) {x : Str} {c : Value} {b : Bool} {p1 : Pos} (hc : Names X x c) (hb : PySem.W.exmOne X.K cls c = some b) {M : Value → Shared → Prop} {E : Value → Shared → Prop} (k : M c { s with heap := g }) :
    wpAny (model X.prog X.w) (X.A.mark (some (.ref a))) (eval (.Name x p1) X.env) M E { s with heap := g } := by
  obtain ⟨oe, vs, h1, h2, h3, S⟩ := F.suite hf
  obtain ⟨n1, n2, m | ⟨m, n3, n4⟩⟩ := hc
  · exact ld_glob (X := X.suite a ((a, oe) :: (X.pn ++ pins))) S n1 m k n2
  · exact ld_blt (X := X.suite a ((a, oe) :: (X.pn ++ pins))) S n1 m n3 k n4 n2
theorem Fly.match_ (F : Fly X pins σ H a cls d B sI s g) {c : Value} {b : Bool} (hb : PySem.W.exmOne X.K cls c = some b) : PySem.W.Looks (model X.prog X.w) g (excMatches (.ref a) c) b := by
  obtain ⟨oe, vs, h1, h2, h3⟩ := F.fl.there
  refine PySem.W.exm_one F.inv.kIn (fun A' M' E' s1 k q => ?_) hb
  refine wpAny_typeOf_ref (k _ _ h1) ?_
  rw [h2.1]
  exact q
/-- on from here, the frame's flight noted again -/
theorem Fly.on (F : Fly X pins σ H a cls d B sI s g) {g' : Heap} (f : HandSPX.FlyingZ B (X.env :: X.outer) a (Zc cls d) g') (u : g.UpToSlots g') : Fly X pins σ H a cls d B sI s g' := ⟨F.J, F.nb, F.up.trans u, f, F.na, F.os, F.ag⟩
variable {D : Ends} {Wout : WX} {hs : List ExceptHandler} {x n : Str} {i : Nat} {c : Value} {ts : Addr → Value → Option Addr → TS} {b₀ : Stmt} {su : List Stmt} {p1 p2 : Pos} {b : Bool}
/-- no clause is left -/
theorem Fly.out (F : Fly X pins σ H a cls d B sI s g) (st : X.stack = X.env :: X.outer) (hf : X.env.frame = some X.env.locals) (tk : Takes X Wout) (w : Wout cls d σ H) :
    wpAny (model X.prog X.w) X.A (handleBy (.ref a) X.env []) (SP X pins D) X.xe { s with heap := g } := by
  have throw_ : wpAny (model X.prog X.w) X.A (setFlight (.ref a) X.env.frame) (fun _ s4 => wpAny (model X.prog X.w) X.A (throw (.ref a) : Sem Flow) (SP X pins D) X.xe s4) X.xe { s with heap := g } := by
    rw [hf]
    refine HandSPX.setFlight_upZ F.fl fun g4 sk u4 => ?_
    refine wpAny_throw (tk _ _ ⟨a, B, sI, pins, σ, H, cls, d, rfl, F.J, F.nb, F.up.trans u4, .inr (.inr ?_), F.na, F.os, F.ag, w⟩)
    rw [st]
    exact sk
  obtain ⟨_, _, _, oe, vs, tb, _, _, e1, _, e3, e4, _⟩ := id F.fl
  have ne : ¬ ((Value.ref tb == Value.none) = true) := by simp
  refine wpAny_handleBy_nil ?_
  unfold PySem.passOn
  refine wpAny_bind (wpAny_field e1 e3 e4 ?_)
  rw [if_neg ne]
  first
    | exact wpAny_bind throw_
    | exact wpAny_bind (wpAny_pure (wpAny_bind throw_))
/-- a clause without a name -/
theorem Fly.bare (F : Fly X pins σ H a cls d B sI s g) (hf : X.env.frame = some X.env.locals) (hc : Names X x c) (hsu : SuOk X b₀ su ts) (hb : PySem.W.exmOne X.K cls c = some b) (yes : b = true → ts a cls d D σ H)
    (no : b = false → wpAny (model X.prog X.w) X.A (handleBy (.ref a) X.env hs) (SP X pins D) X.xe { s with heap := g }) :
    wpAny (model X.prog X.w) X.A (handleBy (.ref a) X.env (.ExceptHandler (some (.Name x p1)) none (b₀ :: su) p2 :: hs)) (SP X pins D) X.xe { s with heap := g } := by
  refine wpAny_handleBy_cons (codeAny_handlers_test (F.asked hf hc hb ((F.match_ hb).here ?_))) fun q => nomatch q
  cases b with
  | false => exact no rfl
  | true =>
    refine codeAny_handlers_suite (HandSPX.lands_againZ F.fl fun g4 f4 u4 => ?_)
    have F4 := F.on f4 u4
    have ok := F.J.ok
    obtain ⟨oe, vs, _, z, e3, S⟩ := F4.suite hf
    refine wpAny_mono ((hsu a oe cls d (X.pn ++ pins) z ⟨_, e3⟩).run [] _ _ H _ S (yes rfl)) (fun fl s6 r => ?_) (fun _ _ z => z.elim)
    cases fl with
    | next => obtain ⟨τ, G, S6, q6⟩ := r; exact ⟨τ, G, S6.unsuite ok, q6⟩
    | brk => obtain ⟨τ, G, S6, q6⟩ := r; exact ⟨τ, G, S6.unsuite ok, q6⟩
    | cont => obtain ⟨τ, G, S6, q6⟩ := r; exact ⟨τ, G, S6.unsuite ok, q6⟩
    | ret u => obtain ⟨y, τ, G, S6, ry, q6⟩ := r; exact ⟨y, τ, G, S6.unsuite ok, ry, q6⟩
/-- a clause with a name -/
theorem Fly.named (F : Fly X pins σ H a cls d B sI s g) (hf : X.env.frame = some X.env.locals) (nd : X.N.Nodup) (hc : Names X x c) (hi : X.N[i]? = some n) (hn : X.env.kindOf n = some .local) (hsu : SuOk X b₀ su ts) (hb : PySem.W.exmOne X.K cls c = some b)
    (yes : b = true → ts a cls d ((⟨c, some i, ts⟩ : Cls1).ends D) (σ.set i (some (.ref a))) H)
    (no : b = false → wpAny (model X.prog X.w) X.A (handleBy (.ref a) X.env hs) (SP X pins D) X.xe { s with heap := g }) :
    wpAny (model X.prog X.w) X.A (handleBy (.ref a) X.env (.ExceptHandler (some (.Name x p1)) (some n) (b₀ :: su) p2 :: hs)) (SP X pins D) X.xe { s with heap := g } := by
  refine wpAny_handleBy_cons (codeAny_handlers_test (F.asked hf hc hb ((F.match_ hb).here ?_))) fun q => nomatch q
  cases b with
  | false => exact no rfl
  | true =>
    refine codeAny_handlers_suite_as (HandSPX.lands_againZ F.fl fun g4 f4 u4 => ?_)
    have F4 := F.on f4 u4
    have ok := F.J.ok
    obtain ⟨oe, vs, _, z, e3, S⟩ := F4.suite hf
    refine store_ok (X := X.suite a ((a, oe) :: (X.pn ++ pins))) (v := .ref a) S nd hi (.inl hn) rfl (fun s5 S5 => ?_) (.inr hn)
    refine wpAny_mono ((hsu a oe cls d (X.pn ++ pins) z ⟨_, e3⟩).run [] s5 _ H _ S5 (yes rfl)) (fun fl s6 r => ?_) (fun _ _ z => z.elim)
    cases fl with
    | next => obtain ⟨τ, G, S6, q6⟩ := r; exact gone_ok (S6.unsuite ok) nd hi hn fun s7 J7 => ⟨_, _, J7, q6⟩
    | brk => obtain ⟨τ, G, S6, q6⟩ := r; exact gone_ok (S6.unsuite ok) nd hi hn fun s7 J7 => ⟨_, _, J7, q6⟩
    | cont => obtain ⟨τ, G, S6, q6⟩ := r; exact gone_ok (S6.unsuite ok) nd hi hn fun s7 J7 => ⟨_, _, J7, q6⟩
    | ret u => obtain ⟨y, τ, G, S6, ry, q6⟩ := r; exact gone_ok (S6.unsuite ok) nd hi hn fun s7 J7 => ⟨_, _, _, J7, ry, q6⟩
theorem Fly.all (F : Fly X pins σ H a cls d B sI s g) (st : X.stack = X.env :: X.outer) (hf : X.env.frame = some X.env.locals) (nd : X.N.Nodup) (tk : Takes X Wout) : ∀ {hs : List ExceptHandler} {l : List Cls1}, MixOk X hs l → wMix X.K Wout D l cls d σ H →
    wpAny (model X.prog X.w) X.A (handleBy (.ref a) X.env hs) (SP X pins D) X.xe { s with heap := g }
  | _, _, .nil, w => F.out st hf tk w
  | _, _, .bare hc hsu r, ⟨_, hb, yes, no⟩ => F.bare hf hc hsu hb (fun e => yes e a F.na) fun e => F.all st hf nd tk r (no e)
  | _, _, .named hc hi hn hsu r, ⟨_, hb, yes, no⟩ => F.named hf nd hc hi hn hsu hb (fun e => yes e a F.na) fun e => F.all st hf nd tk r (no e)
end
end L3
namespace L3
open PySem PySem.Spec PyProof.Rows L2
end L3
namespace PySem.SeqAt
open PySem.Meets PySem.MeetsSeq MeetsSeq2 MeetsSeq3 SeqRoads2
end PySem.SeqAt
namespace L3
open PySem PySem.Spec PyProof.Rows L2
end L3
namespace Lw
open PySem PySem.Spec PyProof.Rows L2 L3
def topS (i : Nat) : Stmt := PySem.Challenge.pw_missedparts_k34_whole_least_taken_texts.main.body.getD i (.Pass ⟨0, 0, 0, 0⟩)
abbrev s_is_integer : Stmt := topS 21
abbrev s_is_list : Stmt := topS 22
abbrev s_is_text : Stmt := topS 23
abbrev s_are_letters : Stmt := topS 24
abbrev s_is_text_over : Stmt := topS 25
abbrev s_want_few : Stmt := topS 26
abbrev s_is_row : Stmt := topS 28
abbrev s_want_machine : Stmt := topS 29
abbrev s_met_from : Stmt := topS 30
abbrev s_want_places : Stmt := topS 38
abbrev s_led : Stmt := topS 39
abbrev s_is_taken : Stmt := topS 40
abbrev s_want_texts_parts : Stmt := topS 50
abbrev s_is_part_of : Stmt := topS 52
abbrev s_is_part : Stmt := topS 53
abbrev s_is_star : Stmt := topS 60
abbrev s_letters_in : Stmt := topS 61
abbrev s_are_rising : Stmt := topS 62
abbrev s_is_piece : Stmt := topS 63
abbrev s_is_product : Stmt := topS 64
abbrev s_is_product_over : Stmt := topS 65
abbrev s_holds : Stmt := topS 66
abbrev s_place_behind : Stmt := topS 67
abbrev s_place_by : Stmt := topS 68
abbrev s_has_text : Stmt := topS 69
abbrev s_lies_within : Stmt := topS 70
abbrev s_reduced_of : Stmt := topS 71
abbrev s_kept_of : Stmt := topS 72
abbrev s_sum_of : Stmt := topS 77
abbrev s_want_letters : Stmt := topS 80
abbrev s_least_taken : Stmt := topS 88
abbrev s_up : Stmt := topS 89
abbrev s_sure_parts : Stmt := topS 90
abbrev s_law_pot : Stmt := topS 92
abbrev s_law_draw : Stmt := topS 93
abbrev s_law_pick : Stmt := topS 94
abbrev s_law_mixed : Stmt := topS 95
abbrev s_law_rows : Stmt := topS 96
abbrev s_law_kinds : Stmt := topS 97
abbrev s_law_is_star : Stmt := topS 98
abbrev s_law_fits : Stmt := topS 99
abbrev s_law_within : Stmt := topS 100
abbrev s_law_reduced : Stmt := topS 101
abbrev s_law_kept : Stmt := topS 102
abbrev s_law_gone : Stmt := topS 103
abbrev s_law_has : Stmt := topS 104
abbrev s_law_texts : Stmt := topS 105
abbrev s_law_is_part : Stmt := topS 106
abbrev s_law_is_taken : Stmt := topS 107
abbrev s_law_is_sure : Stmt := topS 108
abbrev s_law_least : Stmt := topS 109
abbrev s_law_right : Stmt := topS 110
abbrev s_law : Stmt := topS 111
theorem sc_is_integer : FnScope ["value"] ["value"] (defScope s_is_integer) := ⟨rfl, rfl, rfl, by decide +kernel, rfl, by decide +kernel, by decide +kernel⟩
theorem sc_is_list : FnScope ["value"] ["value"] (defScope s_is_list) := ⟨rfl, rfl, rfl, by decide +kernel, rfl, by decide +kernel, by decide +kernel⟩
theorem sc_is_text : FnScope ["value", "sign"] ["value"] (defScope s_is_text) := ⟨rfl, rfl, rfl, by decide +kernel, rfl, by decide +kernel, by decide +kernel⟩
theorem sc_are_letters : FnScope ["value"] ["value"] (defScope s_are_letters) := ⟨rfl, rfl, rfl, by decide +kernel, rfl, by decide +kernel, by decide +kernel⟩
theorem sc_is_text_over : FnScope ["letters", "value", "sign"] ["letters", "value"] (defScope s_is_text_over) := ⟨rfl, rfl, rfl, by decide +kernel, rfl, by decide +kernel, by decide +kernel⟩
theorem sc_want_few : FnScope ["what", "many", "limit"] ["what", "many", "limit"] (defScope s_want_few) := ⟨rfl, rfl, rfl, by decide +kernel, rfl, by decide +kernel, by decide +kernel⟩
theorem sc_is_row : FnScope ["value", "size", "many", "goal"] ["value", "size", "many"] (defScope s_is_row) := ⟨rfl, rfl, rfl, by decide +kernel, rfl, by decide +kernel, by decide +kernel⟩
theorem sc_want_machine : FnScope ["letters", "rows", "kinds", "position", "row", "kind"] ["letters", "rows", "kinds"] (defScope s_want_machine) := ⟨rfl, rfl, rfl, by decide +kernel, rfl, by decide +kernel, by decide +kernel⟩
theorem sc_met_from : FnScope ["rows", "start", "found", "at", "goal"] ["rows", "start"] (defScope s_met_from) := ⟨rfl, rfl, rfl, by decide +kernel, rfl, by decide +kernel, by decide +kernel⟩
theorem sc_want_places : FnScope ["limit", "machines", "machine"] ["limit", "machines"] (defScope s_want_places) := ⟨rfl, rfl, rfl, by decide +kernel, rfl, by decide +kernel, by decide +kernel⟩
theorem sc_led : FnScope ["machine", "place", "text", "here", "letter"] ["machine", "place", "text"] (defScope s_led) := ⟨rfl, rfl, rfl, by decide +kernel, rfl, by decide +kernel, by decide +kernel⟩
theorem sc_is_taken : FnScope ["machine", "text"] ["machine", "text"] (defScope s_is_taken) := ⟨rfl, rfl, rfl, by decide +kernel, rfl, by decide +kernel, by decide +kernel⟩
theorem sc_want_texts_parts : FnScope ["texts", "text"] ["texts"] (defScope s_want_texts_parts) := ⟨rfl, rfl, rfl, by decide +kernel, rfl, by decide +kernel, by decide +kernel⟩
theorem sc_is_part_of : FnScope ["text", "whole", "at", "letter"] ["text", "whole"] (defScope s_is_part_of) := ⟨rfl, rfl, rfl, by decide +kernel, rfl, by decide +kernel, by decide +kernel⟩
theorem sc_is_part : FnScope ["text", "whole"] ["text", "whole"] (defScope s_is_part) := ⟨rfl, rfl, rfl, by decide +kernel, rfl, by decide +kernel, by decide +kernel⟩
theorem sc_is_star : FnScope ["piece"] ["piece"] (defScope s_is_star) := ⟨rfl, rfl, rfl, by decide +kernel, rfl, by decide +kernel, by decide +kernel⟩
theorem sc_letters_in : FnScope ["piece"] ["piece"] (defScope s_letters_in) := ⟨rfl, rfl, rfl, by decide +kernel, rfl, by decide +kernel, by decide +kernel⟩
theorem sc_are_rising : FnScope ["letters", "letter", "at"] ["letters"] (defScope s_are_rising) := ⟨rfl, rfl, rfl, by decide +kernel, rfl, by decide +kernel, by decide +kernel⟩
theorem sc_is_piece : FnScope ["value"] ["value"] (defScope s_is_piece) := ⟨rfl, rfl, rfl, by decide +kernel, rfl, by decide +kernel, by decide +kernel⟩
theorem sc_is_product : FnScope ["value", "piece"] ["value"] (defScope s_is_product) := ⟨rfl, rfl, rfl, by decide +kernel, rfl, by decide +kernel, by decide +kernel⟩
theorem sc_is_product_over : FnScope ["letters", "value", "piece", "letter"] ["letters", "value"] (defScope s_is_product_over) := ⟨rfl, rfl, rfl, by decide +kernel, rfl, by decide +kernel, by decide +kernel⟩
theorem sc_holds : FnScope ["piece", "other", "letter"] ["piece", "other"] (defScope s_holds) := ⟨rfl, rfl, rfl, by decide +kernel, rfl, by decide +kernel, by decide +kernel⟩
theorem sc_place_behind : FnScope ["product", "place", "piece", "at"] ["product", "place", "piece"] (defScope s_place_behind) := ⟨rfl, rfl, rfl, by decide +kernel, rfl, by decide +kernel, by decide +kernel⟩
theorem sc_place_by : FnScope ["product", "place", "pieces", "piece"] ["product", "place", "pieces"] (defScope s_place_by) := ⟨rfl, rfl, rfl, by decide +kernel, rfl, by decide +kernel, by decide +kernel⟩
theorem sc_has_text : FnScope ["product", "text"] ["product", "text"] (defScope s_has_text) := ⟨rfl, rfl, rfl, by decide +kernel, rfl, by decide +kernel, by decide +kernel⟩
theorem sc_lies_within : FnScope ["one", "other"] ["one", "other"] (defScope s_lies_within) := ⟨rfl, rfl, rfl, by decide +kernel, rfl, by decide +kernel, by decide +kernel⟩
theorem sc_reduced_of : FnScope ["product", "found", "piece"] ["product"] (defScope s_reduced_of) := ⟨rfl, rfl, rfl, by decide +kernel, rfl, by decide +kernel, by decide +kernel⟩
theorem sc_kept_of : FnScope ["products", "some", "product", "one", "other"] ["products"] (defScope s_kept_of) := ⟨rfl, rfl, rfl, by decide +kernel, rfl, by decide +kernel, by decide +kernel⟩
theorem sc_sum_of : FnScope ["letters", "products"] ["letters", "products"] (defScope s_sum_of) := ⟨rfl, rfl, rfl, by decide +kernel, rfl, by decide +kernel, by decide +kernel⟩
theorem sc_want_letters : FnScope ["letters"] ["letters"] (defScope s_want_letters) := ⟨rfl, rfl, rfl, by decide +kernel, rfl, by decide +kernel, by decide +kernel⟩
theorem sc_least_taken : FnScope ["machine", "found", "rows", "length", "text", "one", "longer", "letter"] ["machine"] (defScope s_least_taken) := ⟨rfl, rfl, rfl, by decide +kernel, rfl, by decide +kernel, by decide +kernel⟩
theorem sc_up : FnScope ["machine", "found"] ["machine"] (defScope s_up) := ⟨rfl, rfl, rfl, by decide +kernel, rfl, by decide +kernel, by decide +kernel⟩
theorem sc_sure_parts : FnScope ["machine", "least", "some", "letter", "text", "sure", "one"] ["machine"] (defScope s_sure_parts) := ⟨rfl, rfl, rfl, by decide +kernel, rfl, by decide +kernel, by decide +kernel⟩
theorem sc_law_pot : FnScope ["_law_script", "_law_k", "_law_cell"] ["_law_script", "_law_k"] (defScope s_law_pot) := ⟨rfl, rfl, rfl, by decide +kernel, rfl, by decide +kernel, by decide +kernel⟩
theorem sc_law_draw : FnScope ["_law_pot_here", "_law_size", "_law_digit"] ["_law_pot_here", "_law_size"] (defScope s_law_draw) := ⟨rfl, rfl, rfl, by decide +kernel, rfl, by decide +kernel, by decide +kernel⟩
theorem sc_law_pick : FnScope ["_law_pot_here", "_law_some"] ["_law_pot_here", "_law_some"] (defScope s_law_pick) := ⟨rfl, rfl, rfl, by decide +kernel, rfl, by decide +kernel, by decide +kernel⟩
theorem sc_law_mixed : FnScope ["_law_pot_here", "_law_some", "_law_left", "_law_found", "_law_turn"] ["_law_pot_here", "_law_some"] (defScope s_law_mixed) := ⟨rfl, rfl, rfl, by decide +kernel, rfl, by decide +kernel, by decide +kernel⟩
theorem sc_law_rows : FnScope ["_law_pot_here", "_law_many", "_law_size", "_law_rows_here", "_law_free", "_law_way", "_law_k", "_law_at", "_law_far", "_law_near", "_law_spot", "_law_goals", "_law_names", "_law_found", "_law_goal"] ["_law_pot_here", "_law_many", "_law_size"] (defScope s_law_rows) := ⟨rfl, rfl, rfl, by decide +kernel, rfl, by decide +kernel, by decide +kernel⟩
theorem sc_law_kinds : FnScope ["_law_pot_here", "_law_many", "_law_way", "_law_one", "_law_spot"] ["_law_pot_here", "_law_many"] (defScope s_law_kinds) := ⟨rfl, rfl, rfl, by decide +kernel, rfl, by decide +kernel, by decide +kernel⟩
theorem sc_law_is_star : FnScope ["_law_piece"] ["_law_piece"] (defScope s_law_is_star) := ⟨rfl, rfl, rfl, by decide +kernel, rfl, by decide +kernel, by decide +kernel⟩
theorem sc_law_fits : FnScope ["_law_piece", "_law_other", "_law_sign"] ["_law_piece", "_law_other"] (defScope s_law_fits) := ⟨rfl, rfl, rfl, by decide +kernel, rfl, by decide +kernel, by decide +kernel⟩
theorem sc_law_within : FnScope ["_law_one", "_law_other", "_law_at", "_law_piece", "_law_turn"] ["_law_one", "_law_other"] (defScope s_law_within) := ⟨rfl, rfl, rfl, by decide +kernel, rfl, by decide +kernel, by decide +kernel⟩
theorem sc_law_reduced : FnScope ["_law_product", "_law_found", "_law_turn", "_law_at", "_law_near", "_law_one"] ["_law_product"] (defScope s_law_reduced) := ⟨rfl, rfl, rfl, by decide +kernel, rfl, by decide +kernel, by decide +kernel⟩
theorem sc_law_kept : FnScope ["_law_products", "_law_some", "_law_product", "_law_found", "_law_one", "_law_other"] ["_law_products"] (defScope s_law_kept) := ⟨rfl, rfl, rfl, by decide +kernel, rfl, by decide +kernel, by decide +kernel⟩
theorem sc_law_gone : FnScope ["_law_products", "_law_spots", "_law_sign", "_law_found", "_law_product", "_law_spot", "_law_after", "_law_fit", "_law_at"] ["_law_products", "_law_spots", "_law_sign"] (defScope s_law_gone) := ⟨rfl, rfl, rfl, by decide +kernel, rfl, by decide +kernel, by decide +kernel⟩
theorem sc_law_has : FnScope ["_law_products", "_law_text", "_law_spots", "_law_product", "_law_sign", "_law_spot"] ["_law_products", "_law_text"] (defScope s_law_has) := ⟨rfl, rfl, rfl, by decide +kernel, rfl, by decide +kernel, by decide +kernel⟩
theorem sc_law_texts : FnScope ["_law_signs", "_law_most", "_law_found", "_law_rows_here", "_law_turn", "_law_longer", "_law_text", "_law_sign"] ["_law_signs", "_law_most"] (defScope s_law_texts) := ⟨rfl, rfl, rfl, by decide +kernel, rfl, by decide +kernel, by decide +kernel⟩
theorem sc_law_is_part : FnScope ["_law_text", "_law_whole", "_law_passed", "_law_sign"] ["_law_text", "_law_whole"] (defScope s_law_is_part) := ⟨rfl, rfl, rfl, by decide +kernel, rfl, by decide +kernel, by decide +kernel⟩
theorem sc_law_is_taken : FnScope ["_law_signs", "_law_rows_here", "_law_kinds_here", "_law_text", "_law_spot", "_law_sign"] ["_law_signs", "_law_rows_here", "_law_kinds_here", "_law_text"] (defScope s_law_is_taken) := ⟨rfl, rfl, rfl, by decide +kernel, rfl, by decide +kernel, by decide +kernel⟩
theorem sc_law_is_sure : FnScope ["_law_signs", "_law_rows_here", "_law_kinds_here", "_law_text", "_law_line", "_law_at", "_law_spot", "_law_passed", "_law_sign", "_law_goal", "_law_later"] ["_law_signs", "_law_rows_here", "_law_kinds_here", "_law_text"] (defScope s_law_is_sure) := ⟨rfl, rfl, rfl, by decide +kernel, rfl, by decide +kernel, by decide +kernel⟩
theorem sc_law_least : FnScope ["_law_signs", "_law_rows_here", "_law_kinds_here", "_law_found", "_law_text", "_law_one"] ["_law_signs", "_law_rows_here", "_law_kinds_here"] (defScope s_law_least) := ⟨rfl, rfl, rfl, by decide +kernel, rfl, by decide +kernel, by decide +kernel⟩
theorem sc_law_right : FnScope ["_law_pot_here", "_law_signs", "_law_many", "_law_rows_here", "_law_kinds_here", "_law_gear", "_law_due", "_law_look", "_law_turn", "_law_told", "_law_text", "_law_firm", "_law_some", "_law_is_due", "_law_longest", "_law_one"] ["_law_pot_here"] (defScope s_law_right) := ⟨rfl, rfl, rfl, by decide +kernel, rfl, by decide +kernel, by decide +kernel⟩
theorem sc_law : FnScope ["_law_script", "_law_k"] ["_law_script"] (defScope s_law) := ⟨rfl, rfl, rfl, by decide +kernel, rfl, by decide +kernel, by decide +kernel⟩
abbrev s_Machine_init : Stmt := inClass (topS 32) 1
theorem sc_Machine_init : FnScope ["self", "letters", "rows", "kinds", "met", "place", "row"] ["self", "letters", "rows", "kinds"] (defScope s_Machine_init) := ⟨rfl, rfl, rfl, by decide +kernel, rfl, by decide +kernel, by decide +kernel⟩
abbrev s_Machine_rows : Stmt := inClass (topS 32) 4
theorem sc_Machine_rows : FnScope ["self", "row"] ["self"] (defScope s_Machine_rows) := ⟨rfl, rfl, rfl, by decide +kernel, rfl, by decide +kernel, by decide +kernel⟩
abbrev s_Machine_kinds : Stmt := inClass (topS 32) 5
theorem sc_Machine_kinds : FnScope ["self"] ["self"] (defScope s_Machine_kinds) := ⟨rfl, rfl, rfl, by decide +kernel, rfl, by decide +kernel, by decide +kernel⟩
abbrev s_Machine_len : Stmt := inClass (topS 32) 14
abbrev s_Machine_contains : Stmt := inClass (topS 32) 15
abbrev s_Machine_eq : Stmt := inClass (topS 32) 16
abbrev s_Machine_repr : Stmt := inClass (topS 32) 17
theorem sc_Machine_repr : FnScope ["self"] ["self"] (defScope s_Machine_repr) := ⟨rfl, rfl, rfl, by decide +kernel, rfl, by decide +kernel, by decide +kernel⟩
abbrev s_Machine_letters : Stmt := inClass (topS 32) 3
abbrev s_Sum_init : Stmt := inClass (topS 84) 1
theorem sc_Sum_init : FnScope ["self", "letters", "products", "position", "product", "kept"] ["self", "letters", "products"] (defScope s_Sum_init) := ⟨rfl, rfl, rfl, by decide +kernel, rfl, by decide +kernel, by decide +kernel⟩
abbrev s_Sum_products : Stmt := inClass (topS 84) 6
theorem sc_Sum_products : FnScope ["self"] ["self"] (defScope s_Sum_products) := ⟨rfl, rfl, rfl, by decide +kernel, rfl, by decide +kernel, by decide +kernel⟩
abbrev s_Sum_contains : Stmt := inClass (topS 84) 14
theorem sc_Sum_contains : FnScope ["self", "value", "one"] ["self", "value"] (defScope s_Sum_contains) := ⟨rfl, rfl, rfl, by decide +kernel, rfl, by decide +kernel, by decide +kernel⟩
abbrev s_Sum_len : Stmt := inClass (topS 84) 15
abbrev s_Sum_eq : Stmt := inClass (topS 84) 18
abbrev s_Sum_repr : Stmt := inClass (topS 84) 19
abbrev s_Sum_letters : Stmt := inClass (topS 84) 5
theorem sc_Sum_letters : FnScope ["self"] ["self"] (defScope s_Sum_letters) := ⟨rfl, rfl, rfl, by decide +kernel, rfl, by decide +kernel, by decide +kernel⟩
abbrev s_Sum_whole : Stmt := inClass (topS 84) 2
theorem sc_Sum_whole : FnScope ["letters"] ["letters"] (defScope s_Sum_whole) := ⟨rfl, rfl, rfl, by decide +kernel, rfl, by decide +kernel, by decide +kernel⟩
/-- what the top has left of a static method -/
structure Ds (K : PySem.W.Frag) (C : Addr) (x qual : Str) (st : Stmt) (ps : List Str) (p f : Addr) (fd : FuncData) : Prop where
  F : Fun K x qual st f fd
  b : L2.Binds K fd ps []
  s : SMet K C (.type "type") x p f
/-- what the top has left of a method -/
structure Dm (K : PySem.W.Frag) (C : Addr) (x qual : Str) (st : Stmt) (ps : List Str) (f : Addr) (fd : FuncData) : Prop where
  F : Fun K x qual st f fd
  b : L2.Binds K fd ps []
  m : Meth K C x f
/-- .. of a property -/
structure Dp1 (K : PySem.W.Frag) (C : Addr) (x qual : Str) (st : Stmt) (p f : Addr) (fd : FuncData) : Prop where
  F : Fun K x qual st f fd
  b : L2.Binds K fd ["self"] []
  p : PropOf K C x p f
/-- what the top has left of a def -/
structure Dn (K : PySem.W.Frag) (mg : Str → Option Value) (x : Str) (st : Stmt) (ps : List Str) (f : Addr) (fd : FuncData) : Prop where
  F : Fun K x x st f fd
  b : L2.Binds K fd ps []
  g : mg x = some (.ref f)
structure DnA (K : PySem.W.Frag) (mg : Str → Option Value) (g x : Str) (st : Stmt) (ps : List Str) (f : Addr) (fd : FuncData) : Prop where
  F : Fun K x x st f fd
  b : L2.Binds K fd ps []
  g : mg g = some (.ref f)
structure All (K : PySem.W.Frag) (mg : Str → Option Value) where
  f_is_integer : Addr
  d_is_integer : FuncData
  is_integer : Dn K mg "is_integer" s_is_integer ["value"] f_is_integer d_is_integer
  f_is_list : Addr
  d_is_list : FuncData
  is_list : Dn K mg "is_list" s_is_list ["value"] f_is_list d_is_list
  f_is_text : Addr
  d_is_text : FuncData
  is_text : Dn K mg "is_text" s_is_text ["value"] f_is_text d_is_text
  f_are_letters : Addr
  d_are_letters : FuncData
  are_letters : Dn K mg "are_letters" s_are_letters ["value"] f_are_letters d_are_letters
  f_is_text_over : Addr
  d_is_text_over : FuncData
  is_text_over : Dn K mg "is_text_over" s_is_text_over ["letters", "value"] f_is_text_over d_is_text_over
  f_want_few : Addr
  d_want_few : FuncData
  want_few : Dn K mg "want_few" s_want_few ["what", "many", "limit"] f_want_few d_want_few
  f_is_row : Addr
  d_is_row : FuncData
  is_row : Dn K mg "is_row" s_is_row ["value", "size", "many"] f_is_row d_is_row
  f_want_machine : Addr
  d_want_machine : FuncData
  want_machine : Dn K mg "want_machine" s_want_machine ["letters", "rows", "kinds"] f_want_machine d_want_machine
  f_met_from : Addr
  d_met_from : FuncData
  met_from : Dn K mg "met_from" s_met_from ["rows", "start"] f_met_from d_met_from
  f_want_places : Addr
  d_want_places : FuncData
  want_places : Dn K mg "want_places" s_want_places ["limit", "machines"] f_want_places d_want_places
  f_led : Addr
  d_led : FuncData
  led : Dn K mg "led" s_led ["machine", "place", "text"] f_led d_led
  f_is_taken : Addr
  d_is_taken : FuncData
  is_taken : Dn K mg "is_taken" s_is_taken ["machine", "text"] f_is_taken d_is_taken
  f_want_texts_parts : Addr
  d_want_texts_parts : FuncData
  want_texts_parts : DnA K mg "want_texts_parts" "want_texts" s_want_texts_parts ["texts"] f_want_texts_parts d_want_texts_parts
  f_is_part_of : Addr
  d_is_part_of : FuncData
  is_part_of : Dn K mg "is_part_of" s_is_part_of ["text", "whole"] f_is_part_of d_is_part_of
  f_is_part : Addr
  d_is_part : FuncData
  is_part : Dn K mg "is_part" s_is_part ["text", "whole"] f_is_part d_is_part
  f_is_star : Addr
  d_is_star : FuncData
  is_star : Dn K mg "is_star" s_is_star ["piece"] f_is_star d_is_star
  f_letters_in : Addr
  d_letters_in : FuncData
  letters_in : Dn K mg "letters_in" s_letters_in ["piece"] f_letters_in d_letters_in
  f_are_rising : Addr
  d_are_rising : FuncData
  are_rising : Dn K mg "are_rising" s_are_rising ["letters"] f_are_rising d_are_rising
  f_is_piece : Addr
  d_is_piece : FuncData
  is_piece : Dn K mg "is_piece" s_is_piece ["value"] f_is_piece d_is_piece
  f_is_product : Addr
  d_is_product : FuncData
  is_product : Dn K mg "is_product" s_is_product ["value"] f_is_product d_is_product
  f_is_product_over : Addr
  d_is_product_over : FuncData
  is_product_over : Dn K mg "is_product_over" s_is_product_over ["letters", "value"] f_is_product_over d_is_product_over
  f_holds : Addr
  d_holds : FuncData
  holds : Dn K mg "holds" s_holds ["piece", "other"] f_holds d_holds
  f_place_behind : Addr
  d_place_behind : FuncData
  place_behind : Dn K mg "place_behind" s_place_behind ["product", "place", "piece"] f_place_behind d_place_behind
  f_place_by : Addr
  d_place_by : FuncData
  place_by : Dn K mg "place_by" s_place_by ["product", "place", "pieces"] f_place_by d_place_by
  f_has_text : Addr
  d_has_text : FuncData
  has_text : Dn K mg "has_text" s_has_text ["product", "text"] f_has_text d_has_text
  f_lies_within : Addr
  d_lies_within : FuncData
  lies_within : Dn K mg "lies_within" s_lies_within ["one", "other"] f_lies_within d_lies_within
  f_reduced_of : Addr
  d_reduced_of : FuncData
  reduced_of : Dn K mg "reduced_of" s_reduced_of ["product"] f_reduced_of d_reduced_of
  f_kept_of : Addr
  d_kept_of : FuncData
  kept_of : Dn K mg "kept_of" s_kept_of ["products"] f_kept_of d_kept_of
  f_sum_of : Addr
  d_sum_of : FuncData
  sum_of : Dn K mg "sum_of" s_sum_of ["letters", "products"] f_sum_of d_sum_of
  f_want_letters : Addr
  d_want_letters : FuncData
  want_letters : Dn K mg "want_letters" s_want_letters ["letters"] f_want_letters d_want_letters
  f_least_taken : Addr
  d_least_taken : FuncData
  least_taken : Dn K mg "least_taken" s_least_taken ["machine"] f_least_taken d_least_taken
  f_up : Addr
  d_up : FuncData
  up : Dn K mg "up" s_up ["machine"] f_up d_up
  f_sure_parts : Addr
  d_sure_parts : FuncData
  sure_parts : Dn K mg "sure_parts" s_sure_parts ["machine"] f_sure_parts d_sure_parts
  f_law_pot : Addr
  d_law_pot : FuncData
  law_pot : Dn K mg "_law_pot" s_law_pot ["_law_script", "_law_k"] f_law_pot d_law_pot
  f_law_draw : Addr
  d_law_draw : FuncData
  law_draw : Dn K mg "_law_draw" s_law_draw ["_law_pot_here", "_law_size"] f_law_draw d_law_draw
  f_law_pick : Addr
  d_law_pick : FuncData
  law_pick : Dn K mg "_law_pick" s_law_pick ["_law_pot_here", "_law_some"] f_law_pick d_law_pick
  f_law_mixed : Addr
  d_law_mixed : FuncData
  law_mixed : Dn K mg "_law_mixed" s_law_mixed ["_law_pot_here", "_law_some"] f_law_mixed d_law_mixed
  f_law_rows : Addr
  d_law_rows : FuncData
  law_rows : Dn K mg "_law_rows" s_law_rows ["_law_pot_here", "_law_many", "_law_size"] f_law_rows d_law_rows
  f_law_kinds : Addr
  d_law_kinds : FuncData
  law_kinds : Dn K mg "_law_kinds" s_law_kinds ["_law_pot_here", "_law_many"] f_law_kinds d_law_kinds
  f_law_is_star : Addr
  d_law_is_star : FuncData
  law_is_star : Dn K mg "_law_is_star" s_law_is_star ["_law_piece"] f_law_is_star d_law_is_star
  f_law_fits : Addr
  d_law_fits : FuncData
  law_fits : Dn K mg "_law_fits" s_law_fits ["_law_piece", "_law_other"] f_law_fits d_law_fits
  f_law_within : Addr
  d_law_within : FuncData
  law_within : Dn K mg "_law_within" s_law_within ["_law_one", "_law_other"] f_law_within d_law_within
  f_law_reduced : Addr
  d_law_reduced : FuncData
  law_reduced : Dn K mg "_law_reduced" s_law_reduced ["_law_product"] f_law_reduced d_law_reduced
  f_law_kept : Addr
  d_law_kept : FuncData
  law_kept : Dn K mg "_law_kept" s_law_kept ["_law_products"] f_law_kept d_law_kept
  f_law_gone : Addr
  d_law_gone : FuncData
  law_gone : Dn K mg "_law_gone" s_law_gone ["_law_products", "_law_spots", "_law_sign"] f_law_gone d_law_gone
  f_law_has : Addr
  d_law_has : FuncData
  law_has : Dn K mg "_law_has" s_law_has ["_law_products", "_law_text"] f_law_has d_law_has
  f_law_texts : Addr
  d_law_texts : FuncData
  law_texts : Dn K mg "_law_texts" s_law_texts ["_law_signs", "_law_most"] f_law_texts d_law_texts
  f_law_is_part : Addr
  d_law_is_part : FuncData
  law_is_part : Dn K mg "_law_is_part" s_law_is_part ["_law_text", "_law_whole"] f_law_is_part d_law_is_part
  f_law_is_taken : Addr
  d_law_is_taken : FuncData
  law_is_taken : Dn K mg "_law_is_taken" s_law_is_taken ["_law_signs", "_law_rows_here", "_law_kinds_here", "_law_text"] f_law_is_taken d_law_is_taken
  f_law_is_sure : Addr
  d_law_is_sure : FuncData
  law_is_sure : Dn K mg "_law_is_sure" s_law_is_sure ["_law_signs", "_law_rows_here", "_law_kinds_here", "_law_text"] f_law_is_sure d_law_is_sure
  f_law_least : Addr
  d_law_least : FuncData
  law_least : Dn K mg "_law_least" s_law_least ["_law_signs", "_law_rows_here", "_law_kinds_here"] f_law_least d_law_least
  f_law_right : Addr
  d_law_right : FuncData
  law_right : Dn K mg "_law_right" s_law_right ["_law_pot_here"] f_law_right d_law_right
  f_law : Addr
  d_law : FuncData
  law : Dn K mg "law" s_law ["_law_script"] f_law d_law
  C_Machine : Addr
  cl_Machine : Cls K C_Machine
  g_Machine : mg "Machine" = some (.ref C_Machine)
  mk_Machine : PySem.W.makesIn K C_Machine = true
  kp_Machine : PySem.W.keepIn K (.ref C_Machine) = true
  ca_Machine : PySem.W.findIn K (.ref C_Machine) "__class__" = some (some (.builtin "object.__class__"))
  cg_Machine : PySem.W.specialIn K (.builtin "object.__class__") "__get__" = some (some (.builtin "getset_descriptor.__get__"))
  ct_Machine : PySem.W.takesIn K (.builtin "object.__class__") = some true
  ne_Machine : PySem.W.findIn K (.ref C_Machine) "__ne__" = some (some (.builtin "object.__ne__"))
  tt_Machine : PySem.W.typeIn K (.ref C_Machine) = some (.type "type")
  cr_Machine : ClX.CRead K C_Machine (.type "type")
  cv_Machine_MOST_PLACES : ∃ t, ClX.CVal K C_Machine (.type "type") "MOST_PLACES" (.int 40) (.int 40 t)
  n_Machine_own_letters : NoAttr K C_Machine "own_letters"
  n_Machine_own_rows : NoAttr K C_Machine "own_rows"
  n_Machine_own_kinds : NoAttr K C_Machine "own_kinds"
  k_Machine_MOST_PLACES : ∃ t, Con K C_Machine "MOST_PLACES" (.int 40) (.int 40 t)
  f_Machine_init : Addr
  d_Machine_init : FuncData
  Machine_init : Dm K C_Machine "__init__" "Machine.__init__" s_Machine_init ["self", "letters", "rows", "kinds"] f_Machine_init d_Machine_init
  f_Machine_rows : Addr
  d_Machine_rows : FuncData
  Machine_rows : Dm K C_Machine "rows" "Machine.rows" s_Machine_rows ["self"] f_Machine_rows d_Machine_rows
  f_Machine_kinds : Addr
  d_Machine_kinds : FuncData
  Machine_kinds : Dm K C_Machine "kinds" "Machine.kinds" s_Machine_kinds ["self"] f_Machine_kinds d_Machine_kinds
  f_Machine_len : Addr
  d_Machine_len : FuncData
  Machine_len : Dm K C_Machine "__len__" "Machine.__len__" s_Machine_len ["self"] f_Machine_len d_Machine_len
  f_Machine_contains : Addr
  d_Machine_contains : FuncData
  Machine_contains : Dm K C_Machine "__contains__" "Machine.__contains__" s_Machine_contains ["self", "value"] f_Machine_contains d_Machine_contains
  f_Machine_eq : Addr
  d_Machine_eq : FuncData
  Machine_eq : Dm K C_Machine "__eq__" "Machine.__eq__" s_Machine_eq ["self", "other"] f_Machine_eq d_Machine_eq
  f_Machine_repr : Addr
  d_Machine_repr : FuncData
  Machine_repr : Dm K C_Machine "__repr__" "Machine.__repr__" s_Machine_repr ["self"] f_Machine_repr d_Machine_repr
  p_Machine_letters : Addr
  f_Machine_letters : Addr
  d_Machine_letters : FuncData
  Machine_letters : Dp1 K C_Machine "letters" "Machine.letters" s_Machine_letters p_Machine_letters f_Machine_letters d_Machine_letters
  C_Sum : Addr
  cl_Sum : Cls K C_Sum
  g_Sum : mg "Sum" = some (.ref C_Sum)
  mk_Sum : PySem.W.makesIn K C_Sum = true
  kp_Sum : PySem.W.keepIn K (.ref C_Sum) = true
  ca_Sum : PySem.W.findIn K (.ref C_Sum) "__class__" = some (some (.builtin "object.__class__"))
  cg_Sum : PySem.W.specialIn K (.builtin "object.__class__") "__get__" = some (some (.builtin "getset_descriptor.__get__"))
  ct_Sum : PySem.W.takesIn K (.builtin "object.__class__") = some true
  ne_Sum : PySem.W.findIn K (.ref C_Sum) "__ne__" = some (some (.builtin "object.__ne__"))
  tt_Sum : PySem.W.typeIn K (.ref C_Sum) = some (.type "type")
  ns_Sum : PySem.W.mroIn K C_Sum (.type "str") = some false
  cr_Sum : ClX.CRead K C_Sum (.type "type")
  cv_Sum_MOST_PRODUCTS : ∃ t, ClX.CVal K C_Sum (.type "type") "MOST_PRODUCTS" (.int 60) (.int 60 t)
  n_Sum_own_letters : NoAttr K C_Sum "own_letters"
  n_Sum_own_products : NoAttr K C_Sum "own_products"
  k_Sum_MOST_PRODUCTS : ∃ t, Con K C_Sum "MOST_PRODUCTS" (.int 60) (.int 60 t)
  f_Sum_init : Addr
  d_Sum_init : FuncData
  Sum_init : Dm K C_Sum "__init__" "Sum.__init__" s_Sum_init ["self", "letters", "products"] f_Sum_init d_Sum_init
  f_Sum_products : Addr
  d_Sum_products : FuncData
  Sum_products : Dm K C_Sum "products" "Sum.products" s_Sum_products ["self"] f_Sum_products d_Sum_products
  f_Sum_contains : Addr
  d_Sum_contains : FuncData
  Sum_contains : Dm K C_Sum "__contains__" "Sum.__contains__" s_Sum_contains ["self", "value"] f_Sum_contains d_Sum_contains
  f_Sum_len : Addr
  d_Sum_len : FuncData
  Sum_len : Dm K C_Sum "__len__" "Sum.__len__" s_Sum_len ["self"] f_Sum_len d_Sum_len
  f_Sum_eq : Addr
  d_Sum_eq : FuncData
  Sum_eq : Dm K C_Sum "__eq__" "Sum.__eq__" s_Sum_eq ["self", "other"] f_Sum_eq d_Sum_eq
  f_Sum_repr : Addr
  d_Sum_repr : FuncData
  Sum_repr : Dm K C_Sum "__repr__" "Sum.__repr__" s_Sum_repr ["self"] f_Sum_repr d_Sum_repr
  p_Sum_letters : Addr
  f_Sum_letters : Addr
  d_Sum_letters : FuncData
  Sum_letters : Dp1 K C_Sum "letters" "Sum.letters" s_Sum_letters p_Sum_letters f_Sum_letters d_Sum_letters
  p_Sum_whole : Addr
  f_Sum_whole : Addr
  d_Sum_whole : FuncData
  Sum_whole : Ds K C_Sum "whole" "Sum.whole" s_Sum_whole ["letters"] p_Sum_whole f_Sum_whole d_Sum_whole
  b_abs : mg "abs" = none
  b_all : mg "all" = none
  b_any : mg "any" = none
  b_bool : mg "bool" = none
  b_dict : mg "dict" = none
  b_divmod : mg "divmod" = none
  b_enumerate : mg "enumerate" = none
  b_int : mg "int" = none
  b_isinstance : mg "isinstance" = none
  b_len : mg "len" = none
  b_list : mg "list" = none
  b_max : mg "max" = none
  b_min : mg "min" = none
  b_property : mg "property" = none
  b_range : mg "range" = none
  b_repr : mg "repr" = none
  b_set : mg "set" = none
  b_sorted : mg "sorted" = none
  b_str : mg "str" = none
  b_tuple : mg "tuple" = none
  b_zip : mg "zip" = none
  c_SMALL_basics : ∃ t, mg "SMALL_basics" = some (.str "abcdefghijklmnopqrstuvwxyz" t)
  c_MOST_LETTERS : ∃ t, mg "MOST_LETTERS" = some (.int 3 t)
  c_SMALL_products : ∃ t, mg "SMALL_products" = some (.str "abcdefghijklmnopqrstuvwxyz" t)
  c_STAR : ∃ t, mg "STAR" = some (.str "*" t)
  c_MOST_IN_STAR : ∃ t, mg "MOST_IN_STAR" = some (.int 3 t)
  c_MOST_PIECES : ∃ t, mg "MOST_PIECES" = some (.int 12 t)
  c_LOST : ∃ t, mg "LOST" = some (.int (-1) t)
  c_MOST_PARTS_LETTERS : ∃ t, mg "MOST_PARTS_LETTERS" = some (.int 60 t)
  c_MOST_PLACES : ∃ t, mg "MOST_PLACES" = some (.int 6 t)
  c_MOST_TEXTS : ∃ t, mg "MOST_TEXTS" = some (.int 200 t)
end Lw
namespace M14
def row (R : List (List Nat)) (p : Nat) : List Nat := R.getD p []
def addG (f : List Nat) (g : Nat) : List Nat := if g ∈ f then f else f ++ [g]
def metI (R : List (List Nat)) (s : Nat) : Nat → List Nat
  | 0 => [s]
  | n + 1 => match (metI R s n)[n]? with
    | some p => (row R p).foldl addG (metI R s n)
    | none => metI R s n
def met (R : List (List Nat)) (s : Nat) : List Nat := metI R s R.length
theorem row_get {R : List (List Nat)} {p : Nat} {r : List Nat} (h : R[p]? = some r) : row R p = r := by unfold row; rw [List.getD_eq_getElem?_getD, h]; rfl
theorem row_mem {R : List (List Nat)} {p : Nat} (h : p < R.length) : row R p ∈ R := by
  have e : row R p = R[p] := row_get (List.getElem?_eq_getElem h)
  rw [e]; exact List.getElem_mem h
theorem row_at {R : List (List Nat)} {p : Nat} (h : p < R.length) : R[p]? = some (row R p) := by
  rw [row_get (List.getElem?_eq_getElem h)]; exact List.getElem?_eq_getElem h
theorem addG_mem {f : List Nat} {g x : Nat} : x ∈ addG f g ↔ x ∈ f ∨ x = g := by
  unfold addG
  split
  · rename_i h
    exact ⟨.inl, fun z => z.elim id fun e => e ▸ h⟩
  · rw [List.mem_append, List.mem_singleton]
theorem addG_nodup {f : List Nat} {g : Nat} (h : f.Nodup) : (addG f g).Nodup := by
  unfold addG
  split
  · exact h
  · rename_i hn
    rw [List.nodup_append]
    refine ⟨h, (by simp), fun a ha b hb e => ?_⟩
    rw [List.mem_singleton] at hb
    exact hn (hb ▸ e ▸ ha)
theorem addG_pre (f : List Nat) (g : Nat) : f <+: addG f g := by
  unfold addG
  split
  · exact List.prefix_refl _
  · exact List.prefix_append _ _
theorem fold_mem {x : Nat} : ∀ {l f : List Nat}, x ∈ l.foldl addG f ↔ x ∈ f ∨ x ∈ l
  | [], f => by simp
  | a :: l, f => by
    rw [List.foldl_cons, fold_mem, addG_mem, List.mem_cons]
    constructor
    · rintro ((h | h) | h)
      · exact .inl h
      · exact .inr (.inl h)
      · exact .inr (.inr h)
    · rintro (h | h | h)
      · exact .inl (.inl h)
      · exact .inl (.inr h)
      · exact .inr h
theorem fold_nodup : ∀ {l f : List Nat}, f.Nodup → (l.foldl addG f).Nodup
  | [], _, h => h
  | a :: l, f, h => fold_nodup (l := l) (addG_nodup h)
theorem fold_pre : ∀ (l f : List Nat), f <+: l.foldl addG f
  | [], f => List.prefix_refl _
  | a :: l, f => (addG_pre f a).trans (fold_pre l _)
theorem metI_succ {R : List (List Nat)} {s n p : Nat} (h : (metI R s n)[n]? = some p) : metI R s (n + 1) = (row R p).foldl addG (metI R s n) := by
  show (match (metI R s n)[n]? with | some p => _ | none => _) = _
  rw [h]
theorem metI_stay {R : List (List Nat)} {s n : Nat} (h : (metI R s n).length ≤ n) : metI R s (n + 1) = metI R s n := by
  show (match (metI R s n)[n]? with | some p => _ | none => _) = _
  rw [List.getElem?_eq_none h]
theorem metI_pre1 (R : List (List Nat)) (s n : Nat) : metI R s n <+: metI R s (n + 1) := by
  cases h : (metI R s n)[n]? with
  | none => rw [metI_stay (List.getElem?_eq_none_iff.mp h)]; exact List.prefix_refl _
  | some p => rw [metI_succ h]; exact fold_pre _ _
theorem metI_pre (R : List (List Nat)) (s n : Nat) : ∀ k, metI R s n <+: metI R s (n + k)
  | 0 => List.prefix_refl _
  | k + 1 => (metI_pre R s n k).trans (metI_pre1 R s (n + k))
theorem metI_keep {R : List (List Nat)} {s n : Nat} (h : (metI R s n).length ≤ n) : ∀ k, metI R s (n + k) = metI R s n
  | 0 => rfl
  | k + 1 => by
    have e := metI_keep h k
    rw [← Nat.add_assoc, metI_stay (by rw [e]; omega), e]
theorem metI_uniq {R : List (List Nat)} {s a b : Nat} (ha : (metI R s a).length ≤ a) (hb : (metI R s b).length ≤ b) : metI R s a = metI R s b := by
  rcases Nat.le_total a b with h | h
  · obtain ⟨k, rfl⟩ := Nat.exists_eq_add_of_le h
    exact (metI_keep ha k).symm
  · obtain ⟨k, rfl⟩ := Nat.exists_eq_add_of_le h
    exact metI_keep hb k
theorem metI_nodup (R : List (List Nat)) (s : Nat) : ∀ n, (metI R s n).Nodup
  | 0 => by show [s].Nodup; simp
  | n + 1 => by
    cases h : (metI R s n)[n]? with
    | none => rw [metI_stay (List.getElem?_eq_none_iff.mp h)]; exact metI_nodup R s n
    | some p => rw [metI_succ h]; exact fold_nodup (metI_nodup R s n)
theorem metI_in {R : List (List Nat)} {s : Nat} {S : Nat → Prop} (h0 : S s) (hc : ∀ p, S p → ∀ g ∈ row R p, S g) : ∀ n x, x ∈ metI R s n → S x
  | 0, x, hx => by rw [List.mem_singleton.mp hx]; exact h0
  | n + 1, x, hx => by
    cases h : (metI R s n)[n]? with
    | none => rw [metI_stay (List.getElem?_eq_none_iff.mp h)] at hx; exact metI_in h0 hc n x hx
    | some p =>
      rw [metI_succ h] at hx
      rcases fold_mem.mp hx with hx | hx
      · exact metI_in h0 hc n x hx
      · exact hc p (metI_in h0 hc n p (List.mem_of_getElem? h)) x hx
theorem nodup_len : ∀ (n : Nat) (l : List Nat), l.Nodup → (∀ x ∈ l, x < n) → l.length ≤ n
  | 0, l, _, h => by
    cases l with
    | nil => exact Nat.le_refl _
    | cons a l => exact absurd (h a List.mem_cons_self) (Nat.not_lt_zero _)
  | n + 1, l, hd, h => by
    by_cases hm : n ∈ l
    · have h1 := nodup_len n (l.erase n) (hd.erase n) fun x hx => by
        have h2 := (List.Nodup.mem_erase_iff hd).mp hx
        have := h x h2.2
        have := h2.1
        omega
      rw [List.length_erase_of_mem hm] at h1
      omega
    · have h1 := nodup_len n l hd fun x hx => by
        have := h x hx
        have : x ≠ n := fun e => hm (e ▸ hx)
        omega
      omega
/-- rows in range -/
def Val (R : List (List Nat)) : Prop := ∀ p, p < R.length → ∀ g ∈ row R p, g < R.length
theorem metI_lt {R : List (List Nat)} {s : Nat} (v : Val R) (hs : s < R.length) (n x : Nat) (h : x ∈ metI R s n) : x < R.length := metI_in (S := fun x => x < R.length) hs v n x h
theorem metI_len {R : List (List Nat)} {s : Nat} (v : Val R) (hs : s < R.length) (n : Nat) : (metI R s n).length ≤ R.length := nodup_len _ _ (metI_nodup R s n) (metI_lt v hs n)
theorem met_of {R : List (List Nat)} {s n : Nat} (v : Val R) (hs : s < R.length) (h : (metI R s n).length ≤ n) : metI R s n = met R s := metI_uniq h (metI_len v hs _)
theorem met_len {R : List (List Nat)} {s : Nat} (v : Val R) (hs : s < R.length) : (met R s).length ≤ R.length := metI_len v hs _
theorem metI_head (R : List (List Nat)) (s n : Nat) : (metI R s n)[0]? = some s := by
  have h := metI_pre R s 0 n
  rw [Nat.zero_add] at h
  obtain ⟨t, e⟩ := h
  rw [← e]
  rfl
theorem met_head (R : List (List Nat)) (s : Nat) : (met R s)[0]? = some s := metI_head _ _ _
theorem met_self (R : List (List Nat)) (s : Nat) : s ∈ met R s := List.mem_of_getElem? (met_head R s)
theorem met_closed {R : List (List Nat)} {s p g : Nat} (v : Val R) (hs : s < R.length) (hp : p ∈ met R s) (hg : g ∈ row R p) : g ∈ met R s := by
  obtain ⟨i, hi⟩ := List.mem_iff_getElem?.mp hp
  have hl := (List.getElem?_eq_some_iff.mp hi).1
  have hl2 := met_len v hs
  have hlt : i < (metI R s i).length := by
    rcases Nat.lt_or_ge i (metI R s i).length with h | h
    · exact h
    · rw [← met_of v hs h] at hl
      exact absurd hl (Nat.not_lt.mpr h)
  obtain ⟨k, hk⟩ := Nat.exists_eq_add_of_le (show i + 1 ≤ R.length by omega)
  have hpre := metI_pre R s i (1 + k)
  have e1 : (metI R s i)[i]? = some p := by
    rw [← hi]
    have e : i + (1 + k) = R.length := by omega
    rw [e] at hpre
    obtain ⟨t, e2⟩ := hpre
    show _ = (metI R s R.length)[i]?
    rw [← e2, List.getElem?_append_left hlt]
  have h2 : g ∈ metI R s (i + 1) := by
    rw [metI_succ e1]
    exact fold_mem.mpr (.inr hg)
  have h3 := metI_pre R s (i + 1) k
  rw [← hk] at h3
  exact h3.subset h2
theorem idx_get {od : List Nat} {x : Nat} (h : x ∈ od) : od[od.idxOf x]? = some x := by
  have h1 := List.idxOf_lt_length_of_mem h
  rw [List.getElem?_eq_getElem h1, List.getElem_idxOf h1]
theorem idx_at {od : List Nat} (hd : od.Nodup) {i x : Nat} (h : od[i]? = some x) : od.idxOf x = i := by
  obtain ⟨hi, e⟩ := List.getElem?_eq_some_iff.mp h
  have hm : x ∈ od := List.mem_of_getElem? h
  have h1 := List.idxOf_lt_length_of_mem hm
  have h2 : od[od.idxOf x] = x := List.getElem_idxOf h1
  rcases Nat.lt_trichotomy (od.idxOf x) i with z | z | z
  · exact absurd (h2.trans e.symm) (List.pairwise_iff_getElem.mp hd _ _ h1 hi z)
  · exact z
  · exact absurd (e.trans h2.symm) (List.pairwise_iff_getElem.mp hd _ _ hi h1 z)
/-- a sheet of a machine with n letters -/
structure Sht (n : Nat) (R : List (List Nat)) (k : List Bool) : Prop where
  ne : 0 < R.length
  few : R.length ≤ 40
  len : ∀ r ∈ R, r.length = n
  val : Val R
  kin : k.length = R.length
/-- .. of which all places are come to -/
structure Good (n : Nat) (R : List (List Nat)) (k : List Bool) : Prop extends Sht n R k where
  all : ∀ p, p < R.length → p ∈ met R 0
def kAt (k : List Bool) (p : Nat) : Bool := k.getD p false
def addF (t : List Nat) (L : List (Nat × List Nat)) (cg : Nat × Nat) : List (Nat × List Nat) := if cg.2 ∈ L.map (·.1) then L else L ++ [(cg.2, t ++ [cg.1])]
def fstI (sg : List Nat) (R : List (List Nat)) : Nat → List (Nat × List Nat)
  | 0 => [(0, [])]
  | n + 1 => match (fstI sg R n)[n]? with
    | some q => (sg.zip (row R q.1)).foldl (addF q.2) (fstI sg R n)
    | none => fstI sg R n
def fst (sg : List Nat) (R : List (List Nat)) : List (Nat × List Nat) := fstI sg R R.length
def led (sg : List Nat) (R : List (List Nat)) (p : Nat) (t : List Nat) : Nat := t.foldl (fun p c => (row R p).getD (sg.idxOf c) 0) p
theorem led_step {sg : List Nat} {R : List (List Nat)} {k : List Bool} (h : Sht sg.length R k) {p c : Nat} (hp : p < R.length) (hc : c ∈ sg) : ∃ g, (row R p)[sg.idxOf c]? = some g ∧ g < R.length ∧ (row R p).getD (sg.idxOf c) 0 = g := by
  have hl := h.len _ (row_mem hp)
  have hi : sg.idxOf c < (row R p).length := by rw [hl]; exact List.idxOf_lt_length_of_mem hc
  refine ⟨(row R p)[sg.idxOf c], List.getElem?_eq_getElem hi, h.val p hp _ (List.getElem_mem hi), ?_⟩
  rw [List.getD_eq_getElem?_getD, List.getElem?_eq_getElem hi]
  rfl
theorem led_lt {sg : List Nat} {R : List (List Nat)} {k : List Bool} (h : Sht sg.length R k) : ∀ {t : List Nat} {p : Nat}, p < R.length → (∀ c ∈ t, c ∈ sg) → led sg R p t < R.length
  | [], p, hp, _ => hp
  | c :: t, p, hp, hc => by
    obtain ⟨g, _, h2, h3⟩ := led_step h hp (hc c List.mem_cons_self)
    show led sg R ((row R p).getD (sg.idxOf c) 0) t < _
    rw [h3]
    exact led_lt h h2 fun x hx => hc x (List.mem_cons_of_mem _ hx)
theorem led_snoc (sg : List Nat) (R : List (List Nat)) (p : Nat) (t : List Nat) (c : Nat) : led sg R p (t ++ [c]) = (row R (led sg R p t)).getD (sg.idxOf c) 0 := by
  unfold led; rw [List.foldl_append]; rfl
end M14
namespace L3
open PySem PySem.Spec PyProof.Rows L2
mutual
def keyN : PyData → NestedKey
  | .none => .none
  | .bool b => .num (if b = true then 1 else 0)
  | .int i => .num i
  | .str x => .text x
  | .tuple ds => .tup (keyNs ds)
  | .list _ => .none
  | .dict _ => .none
def keyNs : List PyData → List NestedKey
  | [] => []
  | d :: ds => keyN d :: keyNs ds
end
mutual
def keyable : PyData → Bool
  | .none => true
  | .bool _ => true
  | .int _ => true
  | .str _ => true
  | .tuple ds => keyables ds
  | .list _ => false
  | .dict _ => false
def keyables : List PyData → Bool
  | [] => true
  | d :: ds => keyable d && keyables ds
end
section
variable {X : Cx} {pins : List (Addr × Obj)} {σ : L2.St} {H : Hp} {s : Shared}
mutual
theorem nested_of (I : L2.Inv X pins σ H s) : ∀ (d : PyData) (v : V) (u : Value), Dp X.K H v d → RelV v u → keyable d = true → NestedIs s.heap (keyN d) u
  | .none, _, _, h, r, _ => by
    cases h
    cases r
    exact .none
  | .bool b, _, _, h, r, _ => by
    cases h
    cases r
    exact .bool rfl
  | .int i, _, _, h, r, _ => by
    cases h
    obtain ⟨t, rfl⟩ := r
    exact .int i t
  | .str x, _, _, h, r, _ => by
    cases h
    obtain ⟨t, rfl⟩ := r
    exact .text x t
  | .list ds, _, _, _, _, k => by cases k
  | .dict ds, _, _, _, _, k => by cases k
  | .tuple ds, _, _, h, r, k => by
    cases h with
    | tup hs ha =>
      cases r
      obtain ⟨its, rv, ⟨o, ho, hc, n, hd⟩, _⟩ := I.tuple hs
      exact .tup ho hc hd (by simpa using nested_all I ds _ its ha rv k)
theorem nested_all (I : L2.Inv X pins σ H s) : ∀ (ds : List PyData) (vs : List V) (us : List Value), DpAll X.K H vs ds → Vals vs us → keyables ds = true → NestedAll s.heap (keyNs ds) us
  | [], _, _, h, r, _ => by
    cases h
    cases r
    exact .nil
  | d :: ds, _, _, h, r, k => by
    cases h with
    | cons h1 h2 =>
      cases r with
      | cons r1 r2 =>
        rw [keyables, Bool.and_eq_true] at k
        exact .cons (nested_of I d _ _ h1 r1 k.1) (nested_all I ds _ _ h2 r2 k.2)
end
end
/-- an entry: the key's data, its address, the value -/
abbrev EntN := PyData × Addr × V
def KN : List EntN → List (NestedKey × Addr × Value) → Prop := Paired fun p q => q.1 = keyN p.1 ∧ q.2.1 = p.2.1 ∧ RelV p.2.2 q.2.2
def valN (es : List EntN) (k : NestedKey) : Option V := (es.find? fun x => decide (keyN x.1 = k)).map (·.2.2)
theorem KN.val {es : List EntN} {xs : List (NestedKey × Addr × Value)} (r : KN es xs) (k : NestedKey) : RelO (valN es k) ((atKey xs k).map (·.2)) := by
  unfold KN at r
  induction r with
  | nil => exact True.intro
  | @cons p q ps qs h t ih =>
    obtain ⟨h1, _, h2⟩ := h
    by_cases e : keyN p.1 = k
    · have e' : q.1 = k := h1.trans e
      have b : atKey (q :: qs) k = some q.2 := by simp [atKey, List.find?_cons, e']
      have a : valN (p :: ps) k = some p.2.2 := by simp [valN, List.find?_cons, e]
      rw [a, b]; exact h2
    · have e' : ¬ q.1 = k := fun z => e (h1.symm.trans z)
      have b : atKey (q :: qs) k = atKey qs k := by simp [atKey, List.find?_cons, e']
      have a : valN (p :: ps) k = valN ps k := by simp [valN, List.find?_cons, e]
      rw [a, b]; exact ih
theorem KN.snoc {es : List EntN} {xs : List (NestedKey × Addr × Value)} (r : KN es xs) {p : EntN} {q : NestedKey × Addr × Value} (h : q.1 = keyN p.1 ∧ q.2.1 = p.2.1 ∧ RelV p.2.2 q.2.2) : KN (es ++ [p]) (xs ++ [q]) := Paired.snoc r h
/-- a dict with bools as keys -/
def TB (P : Program) (w : World) (a : Addr) (kvs : List (Bool × V)) : HO := .ext fun h => (a == sysModules) = false ∧ kvs.length ≤ sizeLine ∧ ∃ vs, KV kvs vs ∧ h.DictOf (PpSet.boolK P w) a vs
/-- a dict with tuples of any depth as keys -/
def TN (P : Program) (w : World) (a : Addr) (es : List EntN) : HO := .ext fun h => (a == sysModules) = false ∧ es.length ≤ sizeLine ∧ ∃ xs, KN es xs ∧ (xs.map (·.1)).Nodup ∧ ∃ o ens ep, h.get? a = some o ∧ o.ExactDict ∧ o.data = .dict ens ep ∧ ens.toList = xs.map (entryOfKey (nestedKind P w))
/-- the keys stand -/
def Keys (K : PySem.W.Frag) (H : Hp) (es : List EntN) : Prop := ∀ x ∈ es, Dp K H (.ref x.2.1) x.1 ∧ keyable x.1 = true ∧ (keyN x.1).depth ≤ 8
theorem Keys.same {K : PySem.W.Frag} {H H' : Hp} {es : List EntN} (h : Keys K H es) (s : Same H H') : Keys K H' es := fun x hx => ⟨Dp.same s (h x hx).1, (h x hx).2⟩
end L3
namespace L3
open PySem PySem.Spec PyProof.Rows L2
/-- a kind of objects that can be members of a set -/
structure SK (P : Program) (w : World) (K : Type) [DecidableEq K] where
  kd : HeapKind P w K
  ofc : ∀ {A : Around} {E : Value → Shared → Prop} {s : Shared} {k : K} {b : Addr} {Q : Bool → Shared → Prop}, kd.is s.heap k b → Q false s → wpAny (model P w) A (ofAClassStatement 8 (.ref b)) Q E s
  hbv : ∀ {A : Around} {E : Value → Shared → Prop} {s : Shared} {k : K} {b : Addr} {Q : Bool → Shared → Prop}, kd.is s.heap k b → (∀ c, Q c s) → wpAny (model P w) A (hashByValue 8 (.ref b)) Q E s
  stays : ∀ {h h' : Heap} {k : K} {b : Addr}, kd.is h k b → (∀ c o vs n, h.get? c = some o → o.data = .seq vs n → h'.get? c = some o) → kd.is h' k b
section
variable {P : Program} {w : World} {K : Type} [DecidableEq K]
/-- what the set's rows are -/
def mems (m : SK P w K) (L : List (Addr × K)) : List (Int × Value) := L.map fun p => (m.kd.hash p.2, Value.ref p.1)
def hshs (m : SK P w K) (L : List (Addr × K)) : List Int := L.map fun p => m.kd.hash p.2
/-- the set at a, with its members L in the table's order -/
structure SetM (m : SK P w K) (h : Heap) (a : Addr) (L : List (Addr × K)) (es : Array (Int × Value)) (ep : Nat) (t : SetTable) : Prop where
  obj : ∃ o, h.get? a = some o ∧ o.ExactSet ∧ o.data = .set es ep t
  row : es.toList = mems m L
  tab : TabOk t (hshs m L)
  dis : (L.map Prod.snd).Nodup
  key : ∀ p ∈ L, m.kd.is h p.2 p.1
  ord : w.params.followText "set-order" = true ∨ t.led = true
  rm : L.length * 5 < t.mask * 3
  lt : L.length < 64
variable {m : SK P w K} {A : Around} {E : Value → Shared → Prop} {s : Shared} {a : Addr} {L : List (Addr × K)} {es : Array (Int × Value)} {ep : Nat} {t : SetTable}
theorem mems_len (m : SK P w K) (L : List (Addr × K)) : (mems m L).length = L.length := by unfold mems; rw [List.length_map]
theorem hshs_len (m : SK P w K) (L : List (Addr × K)) : (hshs m L).length = L.length := by unfold hshs; rw [List.length_map]
theorem rows_size (h : es.toList = mems m L) : es.size = L.length := by rw [← Array.length_toList, h, mems_len]
theorem rows_at (h : es.toList = mems m L) {i : Nat} {p : Addr × K} (e : L[i]? = some p) : es[i]? = some (m.kd.hash p.2, Value.ref p.1) := by
  rw [← Array.getElem?_toList, h, mems, List.getElem?_map, e, Option.map_some]
theorem SetM.fits (R : SetM m s.heap a L es ep t) : t.fits es.size = true := by
  have z := R.tab.sz
  rw [hshs_len] at z
  have q := rows_size R.row
  have u := R.rm
  simp only [SetTable.fits, SetTable.fill, R.tab.dm, Bool.and_eq_true, beq_iff_eq, decide_eq_true_eq]
  exact ⟨by omega, by show t.place.size + 0 ≤ t.mask; omega⟩
theorem odd_mask (R : SetM m s.heap a L es ep t) : ¬ t.gaveWay = true := by
  unfold SetTable.gaveWay
  rw [mask_odd R.tab.mok]
  decide
/-- nobody sees a search among such members -/
theorem unseen {x : Addr} {k : K} {Q : Bool → Shared → Prop} (hx : m.kd.is s.heap k x) : ∀ {ys : List Value}, (∀ y ∈ ys, ∃ c k', y = Value.ref c ∧ m.kd.is s.heap k' c) → Q false s → wpAny (model P w) A (searchCouldBeSeen (.ref x) ys) Q E s := by
  intro ys hy q
  unfold searchCouldBeSeen
  refine wpAny_bind (wpAny_forIn_list _ (fun rest r s' => r.1 = none ∧ s' = s ∧ ∀ y ∈ rest, ∃ c k', y = Value.ref c ∧ m.kd.is s.heap k' c) _ (fun v rest r s' i => ?_) (fun r s' i => ?_) _ _ ⟨rfl, rfl, hy⟩)
  · obtain ⟨_, rfl, al⟩ := i
    obtain ⟨c, k', rfl, hc⟩ := al v List.mem_cons_self
    have next := fun u hu => al u (List.mem_cons_of_mem _ hu)
    dsimp only
    by_cases hv : (x == c || (carriedByValue (.ref x) && carriedByValue (.ref c))) = true
    · exact wp_if_pos hv (wpAny_pure ⟨rfl, rfl, next⟩)
    · refine wp_if_neg hv (wpAny_bind (m.kd.quiet hx ?_))
      simp only [Bool.not_true, Bool.false_eq_true, if_false]
      refine wpAny_bind (m.kd.quiet hc ?_)
      simp only [Bool.not_true, Bool.false_eq_true, if_false]
      refine wpAny_bind (m.ofc hx ?_)
      simp only [Bool.false_eq_true, if_false]
      refine wpAny_bind (m.ofc hc ?_)
      simp only [Bool.false_eq_true, if_false]
      exact wpAny_pure ⟨rfl, rfl, next⟩
  · obtain ⟨hr, rfl, _⟩ := i
    obtain ⟨r1, r2⟩ := r
    dsimp only at hr
    subst hr
    exact wpAny_pure q
/-- the c-th step of the way of a hash -/
abbrev stp (t : SetTable) (h : Int) (c : Nat) : SetTable.Probe := nth t.mask (runAt t.mask (SetTable.bits h % (t.mask + 1)) (SetTable.bits h)) c
theorem stp_add (t : SetTable) (h : Int) (c q : Nat) : nth t.mask (stp t h c) q = stp t h (c + q) := (nth_add t.mask c _ q).symm
theorem nth_clean {k : Nat} : ∀ (n : Nat) (p : SetTable.Probe), p.dummy = none → (nth k p n).dummy = none
  | 0, _, e => e
  | n + 1, p, e => nth_clean n (adv k p) (by unfold adv; split <;> exact e)
theorem stp_clean (t : SetTable) (h : Int) (c : Nat) : (stp t h c).dummy = none := by
  exact nth_clean c _ rfl
/-- THE SEARCH for k, from step c on -/
theorem look_from (R : SetM m s.heap a L es ep t) {x : Addr} {k : K} (hx : m.kd.is s.heap k x) (hu : m.kd.room A) {N : Nat} (hN : N < 10 * SetTable.turns t.mask) (hfree : way t.mask (m.kd.hash k) N ∉ t.place.toList)
    (hfull : ∀ c, c < N → way t.mask (m.kd.hash k) c ∈ t.place.toList) {Q : SetFound → Shared → Prop} (q1 : k ∈ L.map Prod.snd → Q (.there none) s) (q2 : k ∉ L.map Prod.snd → Q (.free (way t.mask (m.kd.hash k) N) false) s) :
    ∀ (f c : Nat) (st : Option SetTable.Probe), st.getD (t.probeStart (m.kd.hash k)) = stp t (m.kd.hash k) c → c ≤ N → N - c < f →
      (∀ (i : Nat) p, L[i]? = some p → p.2 = k → ∃ d, c ≤ d ∧ d < N ∧ t.place.toList[i]? = some (way t.mask (m.kd.hash k) d)) →
      wpAny (model P w) A (setSearchFrom a (.ref x) (m.kd.hash k) true f st) Q E s
  | 0, _, _, _, _, z, _ => absurd z (Nat.not_lt_zero _)
  | f + 1, c, st, hst, hc, hf, hre => by
    obtain ⟨o, ho, hex, hd⟩ := R.obj
    have hL : ∀ {i : Nat} {p : Addr × K}, L[i]? = some p → ((fun i => (es[i]?.map (·.1)).getD 0) i : Int) = m.kd.hash p.2 := fun {i p} e => by
      show (es[i]?.map (·.1)).getD 0 = _
      rw [rows_at R.row e]
      rfl
    have hj : ∀ q, (nth t.mask (stp t (m.kd.hash k) c) q).j = way t.mask (m.kd.hash k) (c + q) := fun q => congrArg SetTable.Probe.j (stp_add t (m.kd.hash k) c q)
    have found := go_spec t R.tab.ris R.tab.dm (fun i => (es[i]?.map (·.1)).getD 0) (m.kd.hash k) (10 * SetTable.turns t.mask) (N - c) (stp t (m.kd.hash k) c) (stp_clean t _ c) (by omega)
      (fun q hq => by rw [hj]; exact hfull _ (by omega)) (by rw [hj, Nat.add_sub_cancel' hc]; exact hfree)
    rw [setSearchFrom_succ]
    refine wpAny_bind (wpAny_setState_of ho hd R.fits ?_)
    dsimp only
    refine wp_if_neg (odd_mask R) ?_
    try refine wpAny_bind (wpAny_pure ?_)
    rcases found with ⟨q, i, hq, hi, _, before, pr⟩ | ⟨none_eq, pr⟩
    · have pr' : t.probe (fun i => (es[i]?.map (·.1)).getD 0) (m.kd.hash k) (st.getD (t.probeStart (m.kd.hash k))) = some (.candidate (way t.mask (m.kd.hash k) (c + q)) i (stp t (m.kd.hash k) (c + (q + 1)))) := by
        rw [hst, ← hj, ← stp_add]
        exact pr
      rw [hj] at hi
      rw [pr']
      dsimp only
      obtain ⟨p, hp⟩ : ∃ p, L[i]? = some p := by
        have z1 := (List.getElem?_eq_some_iff.mp hi).1
        have z2 := R.tab.sz
        rw [hshs_len] at z2
        rw [Array.length_toList] at z1
        exact ⟨_, List.getElem?_eq_getElem (by omega)⟩
      have hpm := List.mem_of_getElem? hp
      have hslot : t.slot (way t.mask (m.kd.hash k) (c + q)) = .live i := slot_live R.tab.ris hi
      have behind : wpAny (model P w) A (searchRest a (.ref x) (m.kd.hash k) true f es t (way t.mask (m.kd.hash k) (c + q)) i (stp t (m.kd.hash k) (c + (q + 1)))) Q E s := by
        unfold searchRest
        rw [rows_at R.row hp]
        dsimp only
        refine wpAny_bind (wpAny_holding (m.kd.eqBool hu (R.key p hpm) hx ?_))
        refine wpAny_bind (wpAny_setState_of ho hd R.fits ?_)
        dsimp only
        by_cases e : p.2 = k
        · exact wp_if_pos (by simp [e]) (wpAny_pure (q1 (List.mem_map.mpr ⟨p, hpm, e⟩)))
        · refine wp_if_neg (by simp [e]) ?_
          try refine wpAny_bind (wpAny_pure ?_)
          rw [sameMem]
          dsimp only
          simp only [if_true, hslot, rows_at R.row hp]
          refine wpAny_bind (wpAny_isSame_ref_self (wpAny_bind (wpAny_pure ?_)))
          simp only [if_true]
          refine wp_if_neg (by simp [e]) (look_from R hx hu hN hfree hfull q1 q2 f (c + (q + 1)) _ rfl (by omega) (by omega) fun j r hr er => ?_)
          obtain ⟨d, d1, d2, d3⟩ := hre j r hr er
          refine ⟨d, Classical.byContradiction fun z => ?_, d2, d3⟩
          by_cases hd' : d = c + q
          · rw [hd'] at d3
            have := slot_live R.tab.ris d3
            rw [hslot] at this
            injection this with this
            rw [← this, hp] at hr
            exact e (by rw [Option.some.inj hr]; exact er)
          · refine before (d - c) j (by omega) (by rw [hj, Nat.add_sub_cancel' d1]; exact d3) ?_
            exact (hL hr).trans (congrArg m.kd.hash er)
      by_cases hl : t.led = true
      · refine wp_if_neg (by simp [hl]) ?_
        try refine wpAny_bind (wpAny_pure ?_)
        exact behind
      · refine wp_if_pos (by simp [hl]) (wpAny_bind (unseen hx (fun y hy => ?_) ?_))
        · obtain ⟨u, hu1, rfl⟩ := List.mem_map.mp hy
          have hu2 : u ∈ es.toList := by
            have := hu1
            simp only [Array.mem_toList_iff, Array.mem_filter] at this
            exact Array.mem_toList_iff.mpr this.1
          rw [R.row] at hu2
          obtain ⟨r, hr, rfl⟩ := List.mem_map.mp hu2
          exact ⟨r.1, r.2, rfl, R.key r hr⟩
        · refine wp_if_neg (by decide) ?_
          try refine wpAny_bind (wpAny_pure ?_)
          exact behind
    · have pr' : t.probe (fun i => (es[i]?.map (·.1)).getD 0) (m.kd.hash k) (st.getD (t.probeStart (m.kd.hash k))) = some (.empty (way t.mask (m.kd.hash k) N) none) := by
        have e : way t.mask (m.kd.hash k) N = (nth t.mask (stp t (m.kd.hash k) c) (N - c)).j := by rw [hj, Nat.add_sub_cancel' hc]
        rw [hst, e]
        exact pr
      rw [pr']
      dsimp only
      refine wpAny_pure (q2 fun hm => ?_)
      obtain ⟨r, hr, er⟩ := List.mem_map.mp hm
      obtain ⟨j, hj'⟩ := List.mem_iff_getElem?.mp hr
      obtain ⟨d, d1, d2, d3⟩ := hre j r hj' er
      refine none_eq (d - c) j (by omega) (by rw [hj, Nat.add_sub_cancel' d1]; exact d3) ?_
      exact (hL hj').trans (congrArg m.kd.hash er)
/-- the search, whole -/
theorem look (R : SetM m s.heap a L es ep t) {x : Addr} {k : K} (hx : m.kd.is s.heap k x) (hu : m.kd.room A) {Q : SetFound → Shared → Prop} (q1 : k ∈ L.map Prod.snd → Q (.there none) s)
    (q2 : ∀ N, k ∉ L.map Prod.snd → way t.mask (m.kd.hash k) N ∉ t.place.toList → (∀ c, c < N → way t.mask (m.kd.hash k) c ∈ t.place.toList) → Q (.free (way t.mask (m.kd.hash k) N) false) s) :
    wpAny (model P w) A (setSearch a (.ref x) (m.kd.hash k) true) Q E s := by
  have room := R.rm
  obtain ⟨N, n1, n2, n3⟩ := R.tab.first (by rw [hshs_len]; omega) (m.kd.hash k)
  have big : 10 * SetTable.turns t.mask ≤ 1420 := by
    unfold SetTable.turns
    rcases R.tab.mok with e | e | e <;> omega
  unfold setSearch
  refine look_from R hx hu n1 n2 n3 q1 (fun z => q2 N z n2 n3) 100000 0 none rfl (Nat.zero_le _) (by omega) fun i p hp e => ?_
  have hh : (hshs m L)[i]? = some (m.kd.hash k) := by unfold hshs; rw [List.getElem?_map, hp, Option.map_some, e]
  have hi : i < t.place.toList.length := by
    have z1 := (List.getElem?_eq_some_iff.mp hp).1
    have z2 := R.tab.sz
    rw [hshs_len] at z2
    rw [Array.length_toList]
    omega
  obtain ⟨d, d1, d2⟩ := R.tab.before n2 hh (List.getElem?_eq_getElem hi)
  exact ⟨d, Nat.zero_le _, d1, by rw [List.getElem?_eq_getElem hi, d2]⟩
theorem key_but {h h' : Heap} {k : K} {a b : Addr} {o : Obj} {es : Array (Int × Value)} {ep : Nat} {t : SetTable} (hk : m.kd.is h k b) (ho : h.get? a = some o) (hd : o.data = .set es ep t) (hs : Heap.SameBut a h h') : m.kd.is h' k b :=
  m.stays hk fun c u vs n e z => (hs.2 c fun w => by
    subst w
    rw [ho] at e
    cases e
    rw [hd] at z
    cases z).trans e
theorem mems_put (L : List (Addr × K)) (p : Nat) (x : Addr) (k : K) : mems m (L.take p ++ (x, k) :: L.drop p) = (mems m L).take p ++ (m.kd.hash k, Value.ref x) :: (mems m L).drop p := by
  simp only [mems, List.map_append, List.map_cons, List.map_take, List.map_drop]
theorem hshs_put (L : List (Addr × K)) (p : Nat) (x : Addr) (k : K) : hshs m (L.take p ++ (x, k) :: L.drop p) = (hshs m L).take p ++ m.kd.hash k :: (hshs m L).drop p := by
  simp only [hshs, List.map_append, List.map_cons, List.map_take, List.map_drop]
theorem filterMap_range {α : Type} (l : List α) : (List.range l.length).filterMap (fun i => l[i]?) = l := by
  induction l with
  | nil => rfl
  | cons x l ih =>
    rw [List.length_cons, List.range_succ_eq_map]
    simpa [List.filterMap_cons, List.filterMap_map, Function.comp_def] using ih
/-- the members in another order -/
theorem reorder (hr : es.toList = mems m L) {od : Array Nat} (hp : od.toList.Perm (List.range L.length)) :
    ∃ L', (od.filterMap (es[·]?)).toList = mems m L' ∧ L'.Perm L ∧ hshs m L' = od.toList.map fun i => (es.map (·.1)).getD i 0 := by
  have go : ∀ l : List Nat, (∀ i ∈ l, i < L.length) → l.filterMap (es[·]?) = mems m (l.filterMap (L[·]?)) ∧ hshs m (l.filterMap (L[·]?)) = l.map fun i => (es.map (·.1)).getD i 0 := by
    intro l
    induction l with
    | nil => intro _; exact ⟨rfl, rfl⟩
    | cons i l ih =>
      intro hl
      obtain ⟨p, hp⟩ : ∃ p, L[i]? = some p := ⟨_, List.getElem?_eq_getElem (hl i List.mem_cons_self)⟩
      obtain ⟨e1, e2⟩ := ih fun j hj => hl j (List.mem_cons_of_mem _ hj)
      have g : (es.map (·.1)).getD i 0 = m.kd.hash p.2 := by
        have : (es.map (·.1))[i]? = some (m.kd.hash p.2) := by rw [Array.getElem?_map, rows_at hr hp]; rfl
        simp [Array.getD_eq_getD_getElem?, this]
      refine ⟨?_, ?_⟩
      · rw [List.filterMap_cons_some (rows_at hr hp), List.filterMap_cons_some hp, e1]
        rfl
      · rw [List.filterMap_cons_some hp, List.map_cons, ← e2, g]
        rfl
  obtain ⟨e1, e2⟩ := go od.toList fun i hi => List.mem_range.mp (hp.mem_iff.mp hi)
  refine ⟨od.toList.filterMap (L[·]?), by first | (rw [Array.toList_filterMap]; exact e1) | simpa using e1, ?_, e2⟩
  have := hp.filterMap (L[·]?)
  rwa [filterMap_range] at this
/-- the table laid anew -/
theorem relay {o : Obj} (ho : s.heap.get? a = some o) (hex : o.ExactSet) (hd : o.data = .set es ep t) (hr : es.toList = mems m L) (hz : t.place.size = es.size) (hm : t.dummies = #[]) (hl : es.size ≤ t.mask) (dis : (L.map Prod.snd).Nodup)
    (key : ∀ p ∈ L, m.kd.is s.heap p.2 p.1) (ord : w.params.followText "set-order" = true ∨ t.led = true) (lt : L.length < 64) {wanted M : Nat} (h1 : SetTable.sizeAbove wanted - 1 = M) (h2 : MaskOk M) (h3 : SetTable.sizeAbove wanted ≤ 128)
    (h4 : L.length * 5 < M * 3) {Q : Unit → Shared → Prop} (q : ∀ h' L' es' ep' t', Heap.SameBut a s.heap h' → SetM m h' a L' es' ep' t' → L'.Perm L → Q () { s with heap := h' }) : wpAny (model P w) A (setRelay a wanted) Q E s := by
  have z := rows_size hr
  obtain ⟨t', od, e, hp, T, u1, u2, u3, u4⟩ := relaid_ok t (hs := es.map (·.1)) (wanted := wanted) h1 h2 (by rw [Array.size_map]; omega)
  rw [Array.size_map, z] at hp
  obtain ⟨L', r1, r2, r3⟩ := reorder hr hp
  rw [← r3] at T
  have z' : (od.filterMap (es[·]?)).size = es.size := by rw [rows_size r1, r2.length_eq, z]
  have fits : t.fits es.size = true := by
    simp only [SetTable.fits, SetTable.fill, hm, Bool.and_eq_true, beq_iff_eq, decide_eq_true_eq]
    exact ⟨hz, by show t.place.size + 0 ≤ t.mask; omega⟩
  rw [setRelay_eq]
  refine wpAny_bind (wpAny_setState_of ho hd fits ?_)
  dsimp only
  refine wp_if_neg (by rw [sizeLine_eq]; omega) ?_
  try refine wpAny_bind (wpAny_pure ?_)
  rw [e]
  dsimp only
  refine wpAny_bind (wp_if_neg (by rw [z']; simp) ?_)
  try refine wpAny_bind (wpAny_pure ?_)
  refine wpAny_pure (wpAny_storeSet_of ho hd ?_ (by dsimp only; rw [z', sizeLine_eq]; omega))
  have sb : Heap.SameBut a s.heap (s.heap.update a (Obj.putSet (od.filterMap (es[·]?)) t')) := Heap.SameBut.update ..
  exact q _ L' _ (ep + 1) t' sb ⟨⟨_, store_at ho hd, ⟨hex.1, hex.2.1, hex.2.2⟩, rfl⟩, r1, T, (r2.map _).nodup_iff.mpr dis, fun p hp => key_but (key p (r2.mem_iff.mp hp)) ho hd sb, by rw [u2]; exact ord, by rw [r2.length_eq, u1]; exact h4, by rw [r2.length_eq]; exact lt⟩ r2
/-- a member more -/
theorem joinM (R : SetM m s.heap a L es ep t) {x : Addr} {k : K} (hx : m.kd.is s.heap k x) (hu : m.kd.room A) (lt : L.length + 1 < 64) {Q : Bool → Shared → Prop}
    (q : ∀ b h' L' es' ep' t', Heap.SameBut a s.heap h' → SetM m h' a L' es' ep' t' → (k ∈ L.map Prod.snd → L' = L) → (k ∉ L.map Prod.snd → L'.Perm ((x, k) :: L)) → Q b { s with heap := h' }) :
    wpAny (model P w) A (setAddHashed a (.ref x) (m.kd.hash k)) Q E s := by
  obtain ⟨o, ho, hex, hd⟩ := R.obj
  have z := rows_size R.row
  have rm := R.rm
  unfold setAddHashed
  refine wpAny_holding ?_
  rw [show (100000 : Nat) = 99999 + 1 from rfl, setAddHashedIn_succ]
  refine wpAny_bind (wpAny_setState_of ho hd R.fits ?_)
  dsimp only
  refine wp_if_neg (by simp [byScan, Value.scannable]) ?_
  try refine wpAny_bind (wpAny_pure ?_)
  refine wpAny_bind (look R hx hu (fun hm => ?_) fun N hm hN hb => ?_)
  · exact wpAny_pure (q false s.heap L es ep t (Heap.SameBut.refl a s.heap) R (fun _ => rfl) fun z => absurd hm z)
  dsimp only
  refine wpAny_bind (wpAny_setState_of ho hd R.fits ?_)
  dsimp only
  obtain ⟨q1, q2, q3, q4, q5, q6, q7, q8, q9⟩ := R.tab.put hN hb
  rw [hshs_len] at q2 q9
  rw [← hshs_put (x := x)] at q3
  generalize hput : t.put (way t.mask (m.kd.hash k) N) = pt at *
  obtain ⟨t1, p⟩ := pt
  dsimp only at *
  subst q1
  generalize SetTable.below t.place (way t.mask (m.kd.hash k) N) = p at *
  have row1 : (SetTable.insertAt es p (m.kd.hash k, Value.ref x)).toList = mems m (L.take p ++ (x, k) :: L.drop p) := by
    rw [SetTable.toList_insertAt, mems_put, R.row]
  have pm := put_perm L p (x, k)
  generalize L.take p ++ (x, k) :: L.drop p = L1 at *
  generalize SetTable.insertAt es p (m.kd.hash k, Value.ref x) = es1 at *
  have len : L1.length = L.length + 1 := pm.length_eq
  have z1 : es1.size = L.length + 1 := by rw [rows_size row1, len]
  have dis1 : (L1.map Prod.snd).Nodup := (pm.map Prod.snd).nodup_iff.mpr (by rw [List.map_cons]; exact List.nodup_cons.mpr ⟨hm, R.dis⟩)
  have behind : ∀ t2 : SetTable, TabOk t2 (hshs m L1) → t2.mask = t.mask → t2.led = t.led → t2.fill = L.length + 1 → wpAny (model P w) A (do
      storeSet a es1 t2
      if (!false && t2.tooFull) = true then do
          setRelay a (SetTable.grown (es.size + 1))
          pure true
        else pure true) Q E s := fun t1 q3 q4 q5 q9 => by
    refine wpAny_bind (wpAny_storeSet_of ho hd ?_ (by rw [z1, sizeLine_eq]; omega))
    have sb : Heap.SameBut a s.heap (s.heap.update a (Obj.putSet es1 t1)) := Heap.SameBut.update ..
    have at1 := store_at (es' := es1) (t' := t1) ho hd
    generalize s.heap.update a (Obj.putSet es1 t1) = h1 at *
    have key1 : ∀ r ∈ L1, m.kd.is h1 r.2 r.1 := fun r hr => by
      rcases List.mem_cons.mp (pm.mem_iff.mp hr) with rfl | hr
      · exact key_but hx ho hd sb
      · exact key_but (R.key r hr) ho hd sb
    have ord1 : w.params.followText "set-order" = true ∨ t1.led = true := by rw [q5]; exact R.ord
    have full_iff : t1.tooFull = decide ((L.length + 1) * 5 ≥ t1.mask * 3) := by unfold SetTable.tooFull; rw [q9]
    by_cases hf : t1.tooFull = true
    · have full := hf
      rw [full_iff, decide_eq_true_eq, q4] at full
      first
        | (refine wpAny_bind ?_; refine wp_if_pos (by simp [hf]) ?_)
        | (refine wp_if_pos (by simp [hf]) ?_; refine wpAny_bind ?_)
      have pz : t1.place.size = es1.size := by rw [q3.sz, hshs_len, len, z1]
      have step : ∀ M, SetTable.sizeAbove (SetTable.grown (es.size + 1)) - 1 = M → MaskOk M → SetTable.sizeAbove (SetTable.grown (es.size + 1)) ≤ 128 → (L.length + 1) * 5 < M * 3 → es1.size ≤ t1.mask →
          wpAny (model P w) A (setRelay a (SetTable.grown (es.size + 1))) (fun _ s' => wpAny (model P w) A (pure true) Q E s') E { s with heap := h1 } := fun M a1 a2 a3 a4 a5 =>
        relay (s := { s with heap := h1 }) at1 ⟨hex.1, hex.2.1, hex.2.2⟩ rfl row1 pz q3.dm a5 dis1 key1 ord1 (by rw [len]; exact lt) a1 a2 a3 (by rw [len]; exact a4) fun h2 L2 es2 ep2 t2 sb2 R2 pm2 =>
          wpAny_pure (q true h2 L2 es2 ep2 t2 (sb.trans sb2) R2 (fun z => absurd z hm) fun _ => pm2.trans pm)
      rcases R.tab.mok with e | e | e
      · have l4 : L.length = 4 := by rw [e] at full rm; omega
        exact step 31 (by rw [z, l4, size_20]) (.inr (.inl rfl)) (by rw [z, l4, size_20]; decide) (by omega) (by rw [z1, q4, e]; omega)
      · have l18 : L.length = 18 := by rw [e] at full rm; omega
        exact step 127 (by rw [z, l18, size_76]) (.inr (.inr rfl)) (by rw [z, l18, size_76]; decide) (by omega) (by rw [z1, q4, e]; omega)
      · rw [e] at full
        omega
    · have thin := hf
      rw [full_iff, decide_eq_true_eq] at thin
      first
        | refine wp_if_neg (by simp [hf]) ?_
        | (refine wpAny_bind ?_; refine wp_if_neg (by simp [hf]) ?_; refine wpAny_pure ?_)
      exact wpAny_pure (q true h1 L1 es1 (ep + 1) t1 sb ⟨⟨_, at1, ⟨hex.1, hex.2.1, hex.2.2⟩, rfl⟩, row1, q3, dis1, key1, ord1, by rw [len]; omega, by rw [len]; exact lt⟩ (fun z => absurd z hm) fun _ => pm)
  have flag : ∀ b : Bool, wpAny (model P w) A (do
      storeSet a es1 (if b = true then t1 else { t1 with plain := false })
      if (!false && (if b = true then t1 else { t1 with plain := false }).tooFull) = true then do
          setRelay a (SetTable.grown (es.size + 1))
          pure true
        else pure true) Q E s := fun b => by
    cases b with
    | true => exact behind t1 q3 q4 q5 q9
    | false => exact behind { t1 with plain := false } ⟨q3.ris, q3.dm, q3.sz, q3.mok, q3.bd, q3.reach⟩ q4 q5 q9
  by_cases pl : t1.plain = true
  · first
      | (refine wpAny_bind ?_; refine wp_if_pos pl ?_; exact m.hbv hx flag)
      | exact wp_if_pos pl (wpAny_bind (m.hbv hx flag))
  · first
      | (refine wpAny_bind ?_; refine wp_if_neg pl ?_; exact wpAny_pure (flag true))
      | exact wp_if_neg pl (wpAny_bind (wpAny_pure (flag true)))
end
section
variable {P : Program} {w : World} {K : Type} [DecidableEq K]
/-- what has come of the first i -/
structure From (bs : List (Addr × K)) (i : Nat) (L : List (Addr × K)) : Prop where
  sub : ∀ p ∈ L, p ∈ bs
  all : ∀ p ∈ bs.take i, p.2 ∈ L.map Prod.snd
  len : L.length ≤ i
theorem From.nil (bs : List (Addr × K)) : From bs 0 [] := ⟨(fun p h => by cases h), (fun p h => by simp at h), Nat.le_refl _⟩
theorem From.old {bs L : List (Addr × K)} {i : Nat} {x : Addr × K} (g : From bs i L) (h : bs[i]? = some x) (hm : x.2 ∈ L.map Prod.snd) : From bs (i + 1) L :=
  ⟨g.sub, fun p hp => by
    rw [List.take_add_one, h] at hp
    rcases List.mem_append.mp hp with z | z
    · exact g.all p z
    · rw [List.mem_singleton.mp z]; exact hm, Nat.le_succ_of_le g.len⟩
theorem From.new {bs L L' : List (Addr × K)} {i : Nat} {x : Addr × K} (g : From bs i L) (h : bs[i]? = some x) (pm : L'.Perm (x :: L)) : From bs (i + 1) L' :=
  ⟨fun p hp => by
    rcases List.mem_cons.mp (pm.mem_iff.mp hp) with rfl | z
    · exact List.mem_of_getElem? h
    · exact g.sub p z, fun p hp => by
    rw [(pm.map Prod.snd).mem_iff, List.map_cons]
    rw [List.take_add_one, h] at hp
    rcases List.mem_append.mp hp with z | z
    · exact List.mem_cons_of_mem _ (g.all p z)
    · rw [List.mem_singleton.mp z]; exact List.mem_cons_self, by rw [pm.length_eq, List.length_cons]; exact Nat.succ_le_succ g.len⟩
variable {m : SK P w K} {A : Around}
theorem key_keep {h h' : Heap} {k : K} {b : Addr} (x : m.kd.is h k b) (hk : ∀ c o, h.get? c = some o → h'.get? c = some o) : m.kd.is h' k b := m.stays x fun c o _ _ e _ => hk c o e
theorem SetM.keep {h h' : Heap} {a : Addr} {L : List (Addr × K)} {es : Array (Int × Value)} {ep : Nat} {t : SetTable} (R : SetM m h a L es ep t) (ha : ∀ o, h.get? a = some o → h'.get? a = some o) (hk : ∀ p ∈ L, m.kd.is h' p.2 p.1) : SetM m h' a L es ep t :=
  ⟨let ⟨o, ho, r⟩ := R.obj; ⟨o, ha o ho, r⟩, R.row, R.tab, R.dis, hk, R.ord, R.rm, R.lt⟩
theorem setM_fresh {h : Heap} {a : Addr} (ho : h.get? a = some { cls := .type "set", dict := none, data := .set #[] 0 (.fresh 0 0 (!w.params.followText "set-order")) }) : SetM m h a [] #[] 0 (.fresh 0 0 (!w.params.followText "set-order")) :=
  ⟨⟨_, ho, ⟨rfl, rfl, rfl⟩, rfl⟩, rfl, ⟨List.Pairwise.nil, rfl, rfl, .inl rfl, fun x hx => (by cases hx), fun i h j hi => (by simp [hshs] at hi)⟩, List.nodup_nil, fun p hp => (by cases hp), by
    show _ ∨ (!w.params.followText "set-order") = true
    cases w.params.followText "set-order"
    · exact .inr rfl
    · exact .inl rfl, by show 0 * 5 < 7 * 3; decide, by show 0 < 64; decide⟩
variable {R : Result → Shared → Prop} {I : Addr} {fp wr : List Addr} {G : Array GenState → Array GenState → Prop} {n : Nat} {Pv : Nat → Value → Prop} {St : Nat → Shared → Prop}
theorem set_loopM (W : WalksS P w A.in1 I fp wr G n Pv St) (S : Addr) (hSf : S ∉ fp) (bs : List (Addr × K)) (hn : n = bs.length) (hfew : bs.length < 64) (hval : ∀ i v, Pv i v → ∃ p, bs[i]? = some p ∧ v = .ref p.1)
    (h0 : Heap) (hk0 : ∀ p ∈ bs, m.kd.is h0 p.2 p.1) (hS0 : h0.get? S = none) (hw0 : ∀ b ∈ wr, h0.get? b = none) (hu : m.kd.room A.in1) :
    ∀ (k i : Nat) (s : Shared), n - i = k → i ≤ n → St i s → (∀ b o, h0.get? b = some o → s.heap.get? b = some o) → (∃ L es ep t, SetM m s.heap S L es ep t ∧ From bs i L) →
      (∀ s' L es ep t, Moved (S :: wr) G s s' → SetM m s'.heap S L es ep t → From bs n L → (∀ b o, h0.get? b = some o → s'.heap.get? b = some o) → R (.ok (.ret .none)) s') →
      codeAny (model P w) A (.builtin "set.update.loop" ⟨[.ref S, .ref I], []⟩) R s := by
  have hSw : S ∉ wr := fun h => hSf (W.sub _ h)
  have sub : ∀ b ∈ wr, b ∈ S :: wr := fun b hb => List.mem_cons_of_mem _ hb
  have stay : ∀ {s s' : Shared}, Moved wr G s s' → (∀ b o, h0.get? b = some o → s.heap.get? b = some o) → ∀ b o, h0.get? b = some o → s'.heap.get? b = some o := fun hm q b o e =>
    hm.heap b o (fun z => by rw [hw0 b z] at e; cases e) (q b o e)
  intro k
  induction k with
  | zero =>
    intro i s hk hi hst q0 ⟨L, es, ep, t, hS, g⟩ hR
    obtain rfl : i = n := by omega
    refine codeAny_builtin PyProof.Rows.F.entry_set_update_loop ?_
    rw [Around.under_plainId PyProof.Rows.F.plain_set_update_loop _]
    show wpAny _ A.in1 (pyNext (.ref I) >>= _) _ _ s
    refine wpAny_bind (W.done s _ _ hst fun s' hm => ?_)
    show wpAny _ A.in1 (ret Value.none) _ _ s'
    have q1 := stay hm q0
    exact wpAny_pure (hR s' L es ep t (hm.mono sub) (hS.keep (fun o e => hm.heap S o hSw e) fun p hp => key_keep (hk0 p (g.sub p hp)) q1) g q1)
  | succ k ih =>
    intro i s hk hi hst q0 ⟨L, es, ep, t, hS, g⟩ hR
    have hlt : i < n := by omega
    refine codeAny_builtin PyProof.Rows.F.entry_set_update_loop ?_
    rw [Around.under_plainId PyProof.Rows.F.plain_set_update_loop _]
    show wpAny _ A.in1 (pyNext (.ref I) >>= _) _ _ s
    refine wpAny_bind (W.item i s _ _ hlt hst fun v s' hP hst' hm => ?_)
    obtain ⟨p, hp, rfl⟩ := hval i v hP
    have q1 := stay hm q0
    have hS' : SetM m s'.heap S L es ep t := hS.keep (fun o e => hm.heap S o hSw e) fun r hr => key_keep (hk0 r (g.sub r hr)) q1
    have hx : m.kd.is s'.heap p.2 p.1 := key_keep (hk0 p (List.mem_of_getElem? hp)) q1
    show wpAny _ A.in1 (holding [Value.ref p.1] (setAdd S (.ref p.1)) >>= _) _ _ s'
    refine wpAny_bind (wpAny_holding ?_)
    unfold setAdd
    refine wpAny_holding ?_
    refine wpAny_bind (m.kd.pyHash hu hx ?_)
    have gl := g.len
    refine joinM (s := { s' with toks := s'.toks + m.kd.draws p.2 }) hS' hx hu (by omega) fun b h' L' es' ep' t' sb hS2 c1 c2 => ?_
    have g' : From bs (i + 1) L' := by
      rcases Classical.em (p.2 ∈ L.map Prod.snd) with c | c
      · rw [c1 c]; exact g.old hp c
      · exact g.new hp (c2 c)
    have q2 : ∀ b o, h0.get? b = some o → h'.get? b = some o := fun b o e => (sb.2 b fun z => by rw [z, hS0] at e; cases e).trans (q1 b o e)
    refine wpAny_pure ⟨plainId_quiet PyProof.Rows.F.plain_set_update_loop _, ih (i + 1) _ (by omega) hlt (W.frame _ s' _ _ hst' (Nat.le_add_right _ _) fun b hb o e => ?_) q2 ⟨L', es', ep', t', hS2, g'⟩ fun s'' L2 es2 ep2 t2 hm'' hS'' g'' q3 => ?_⟩
    · rw [sb.2 b (fun h : b = S => hSf (by rw [← h]; exact hb))]; exact e
    · refine hR s'' L2 es2 ep2 t2 (Moved.trans W.gtrans ((hm.mono sub).then_heap (Nat.le_add_right _ _) fun b o hb e => ?_) hm'') hS'' g'' q3
      rw [sb.2 b (fun h : b = S => hb (by rw [h]; exact List.mem_cons_self))]; exact e
variable {E : Value → Shared → Prop} {s : Shared}
set_option maxHeartbeats 8000000 in
/-- set(list of objects told by keys) -/
theorem call_setM {l : Addr} {items : Array Value} (bs : List (Addr × K)) {Q : Value → Shared → Prop} (hh : A.handled = none) (hl : s.heap.IsList l items) (hit : items.toList = bs.map fun p => Value.ref p.1) (hk : ∀ p ∈ bs, m.kd.is s.heap p.2 p.1) (hb : bs.length < 64) (hu : m.kd.room A.in1.in1.in1)
    (h : ∀ (h' : Heap) (tk : Nat) L es ep t, SetM m h' s.heap.objs.size L es ep t → From bs bs.length L → (∀ b o, s.heap.get? b = some o → h'.get? b = some o) → Q (.ref s.heap.objs.size) { s with heap := h', toks := tk }) :
    wpAny (model P w) A (call (.type "set") [.ref l]) Q E s := by
  have hisz : items.size = bs.length := by
    have q := congrArg List.length hit
    rw [Array.length_toList, List.length_map] at q
    exact q
  obtain ⟨c, tl, hmro⟩ := PySem.F.called_set.mro
  have hmade := PySem.F.called_set.made
  have hsub := PySem.F.called_set.sub
  refine wpAny_call (codeAny_of_tree ?_)
  show wpAny _ _ (callAny (.type "set") _) _ _ _
  refine wpAny_pure ⟨Code.quiet_builtin _ (by decide +kernel), codeAny_builtin PySem.F.entry_type_call ?_⟩
  rw [Around.under_plain (weight_type_call_type "set" [.ref l] []) rfl]
  have h1 := PySem.F.called_set.notType
  have h2 := PySem.F.called_set.canCreate
  have hct := PySem.F.typeCall_set_1 (.ref l)
  repeat (any_goals (first | assumption | wp_step))
  refine codeAny_mono (L3.code_set_led1 (.ref l) (E := E) (Q₁ := fun obj s₁ => obj = .ref s.heap.objs.size ∧ s₁ = { s with heap := s.heap.push { cls := .type "set", dict := none, data := .set #[] 0 (.fresh 0 0 (!w.params.followText "set-order")) } }) ⟨rfl, rfl⟩) fun r s₁ hr => ?_
  cases r with
  | error e => exact hr
  | ok fl =>
    cases fl with
    | ret obj =>
      obtain ⟨rfl, rfl⟩ := hr
      have hS : (s.heap.push { cls := .type "set", dict := none, data := .set #[] 0 (.fresh 0 0 (!w.params.followText "set-order")) }).get? s.heap.objs.size = some { cls := .type "set", dict := none, data := .set #[] 0 (.fresh 0 0 (!w.params.followText "set-order")) } := Heap.get?_push_size _ rfl
      have hT : Shared.TypeIs { s with heap := s.heap.push { cls := .type "set", dict := none, data := .set #[] 0 (.fresh 0 0 (!w.params.followText "set-order")) } } (.ref s.heap.objs.size) "set" := ⟨_, hS, rfl⟩
      have hli := PySem.F.called_set.init.lookup
      have hbi := PySem.F.called_set.init.bind (.ref s.heap.objs.size)
      repeat (any_goals (first | assumption | wp_step))
      refine codeAny_mono (codeAny_call_builtin (R := wants (fun r s₂ => r = .none ∧ ∃ h' tk L es ep t, s₂ = { s with heap := h', toks := tk } ∧ SetM m h' s.heap.objs.size L es ep t ∧ From bs bs.length L ∧
          (∀ b o, s.heap.get? b = some o → h'.get? b = some o)) E) PySem.F.called_set.init.plain PySem.F.entry_set_init (PySem.check_set_init_1 hT ?_)) fun r₂ s₂ hr₂ => ?_
      · obtain ⟨ol, hol, hcl, nl, hdl⟩ := hl
        obtain ⟨ocls, odict, odata, oslots⟩ := ol
        simp only at hcl hdl
        subst hcl; subst hdl
        have hol' : (s.heap.push { cls := .type "set", dict := none, data := .set #[] 0 (.fresh 0 0 (!w.params.followText "set-order")) }).get? l = some { cls := .type "list", dict := odict, data := .seq items nl, slots := oslots } := Heap.get?_push_of_some _ hol
        have hsls := PySem.F.sub_list_set
        have hslf := PySem.F.sub_list_frozenset
        have hne : (Value.type "list" == Value.type "dict") = false := by decide
        have hl1 : (s.heap.push { cls := .type "set", dict := none, data := .set #[] 0 (.fresh 0 0 (!w.params.followText "set-order")) }).IsList l items := ⟨_, hol', rfl, nl, rfl⟩
        unfold Builtin.«set.__init__» noKeywords Builtin.Frozenset.updateFrom
        generalize hPI : pyIter = PI
        wp_walk
        subst hPI
        refine wpAny_pyIter_list hl1 ?_
        refine wpAny_bind (wpAny_runValue ?_)
        have hlS : l < s.heap.objs.size := Heap.lt_size hol
        have hh3 : A.in1.in1.in1.handled = none := by simp [hh]
        have hneI : l ≠ (s.heap.push { cls := .type "set", dict := none, data := .set #[] 0 (.fresh 0 0 (!w.params.followText "set-order")) }).objs.size := by
          rw [Heap.size_push]; exact Nat.ne_of_lt (Nat.lt_succ_of_lt hlS)
        have hSf : s.heap.objs.size ∉ [(s.heap.push { cls := .type "set", dict := none, data := .set #[] 0 (.fresh 0 0 (!w.params.followText "set-order")) }).objs.size, l] := by
          rw [Heap.size_push]; simp only [List.mem_cons, List.mem_singleton, List.not_mem_nil, or_false, not_or]
          exact ⟨Nat.ne_of_lt (Nat.lt_succ_self _), Nat.ne_of_gt hlS⟩
        have hval : ∀ (i : Nat) (v : Value), items[i]? = some v → ∃ p, bs[i]? = some p ∧ v = .ref p.1 := fun i v hv => by
          rw [← Array.getElem?_toList, hit, List.getElem?_map] at hv
          obtain ⟨p, hp, e⟩ := Option.map_eq_some_iff.mp hv
          exact ⟨p, hp, e.symm⟩
        have gone : ∀ b, s.heap.objs.size ≤ b → s.heap.get? b = none := fun b hb => Heap.get?_none_of_le hb
        refine set_loopM ((Walks.list hh3 _ l hneI items).toS) s.heap.objs.size hSf bs hisz hb hval s.heap hk (gone _ (Nat.le_refl _)) (fun b hb => gone b (by rw [List.mem_singleton.mp hb, Heap.size_push]; exact Nat.le_succ _)) hu (items.size - 0) 0 _ (by omega) (Nat.zero_le _)
          ⟨⟨_, Heap.get?_push_size _ rfl, rfl, rfl⟩, (hl1.push _)⟩ (fun b o e => Heap.get?_push_of_some _ (Heap.get?_push_of_some _ e)) ?hS0 ?hR
        case hS0 => exact ⟨[], #[], 0, _, setM_fresh (Heap.get?_push_of_some _ hS), From.nil bs⟩
        case hR =>
          intro s' L es ep t hm hS' g' hkp
          obtain ⟨h', g2, d', tk', os'⟩ := s'
          have eg : g2 = s.gens := hm.gens
          have ed : d' = s.drawn := hm.drawn
          have eo : os' = s.os := hm.os
          subst eg; subst ed; subst eo
          show wpAny _ _ _ _ _ _
          refine wpAny_pure ?_
          show wpAny _ _ (ret Value.none) _ _ _
          rw [hisz] at g'
          exact wpAny_pure ⟨rfl, h', tk', L, es, ep, t, rfl, hS', g', hkp⟩
      · cases r₂ with
        | error e => exact hr₂
        | ok fl₂ =>
          cases fl₂ with
          | ret r =>
            obtain ⟨rfl, h', tk, L, es, ep, t, rfl, hS', g', hk'⟩ := hr₂
            repeat (any_goals (first | assumption | wp_step))
            exact h _ _ _ _ _ _ hS' g' hk'
          | _ => exact hr₂.elim
    | _ => exact hr.elim
end
end L3
namespace L3
open PySem PySem.Spec PyProof.Rows PySem.W PySem.Calls PySem.SeqAt
section
variable {prog : Program} {w : World} {A : Around} {E : Value → Shared → Prop} {s : Shared}
theorem each_right {α β : Type} {R : α → β → Prop} : ∀ {as : List α} {bs : List β}, EachIs R as bs → ∀ b ∈ bs, ∃ a ∈ as, R a b
  | _, _, .nil, b, h => by cases h
  | _, _, .cons h t, b, hb => by
    rcases List.mem_cons.mp hb with rfl | hb
    · exact ⟨_, List.mem_cons_self, h⟩
    · obtain ⟨a, ha, r⟩ := each_right t b hb
      exact ⟨a, List.mem_cons_of_mem _ ha, r⟩
/-- tuple's own __lt__, asked by the sort -/
theorem tup_lt_call {Q : Value → Shared → Prop} {l b : Addr} {u v : Array Value} {e r : Nat → Bool} (hl : s.heap.IsTuple l u) (hb : s.heap.IsTuple b v)
    (he : ∀ j (h1 : j < u.size) (h2 : j < v.size), EqAt A.in1 s u[j] v[j] (e j)) (hr : ∀ j (h1 : j < u.size) (h2 : j < v.size), e j = false → RcLt A.in1 s u[j] v[j] (r j))
    (q : Q (.bool (firstLt e r (decide (u.size < v.size)) (List.range (min u.size v.size)))) s) : wpAny (model prog w) A (call (.builtin "tuple.__lt__") [.ref l, .ref b]) Q E s := by
  obtain ⟨⟨k1, d1, a1, t1⟩, ho, h1, n, h2⟩ := hl
  obtain ⟨⟨k2, d2, a2, t2⟩, ho', h1', n', h2'⟩ := hb
  dsimp only at h1 h2 h1' h2'
  subst h1 h2 h1' h2'
  exact call_meets F.slot_tuple_lt ⟨_, ho, rfl⟩ F.entry_tuple_lt (F.args_tuple_lt_2 _ _) (tuple_ltAt l b u v n n' d1 d2 t1 t2 e r) ⟨ho, ho', he, hr, q⟩
/-- one tuple against another, the sort knowing that all are tuples or not -/
theorem tup_one {f : Bool} {xs ys : List PyData} {a b : Value} {as bs : List Addr} {Q : Bool → Shared → Prop} (ra : Reads s.heap a (.tuple xs) as) (rb : Reads s.heap b (.tuple ys) bs) (h : alikeAll xs ys = true)
    (hu : A.units + min (PyData.tuple xs).depth (PyData.tuple ys).depth < cLine) (hq : Q (dataLt (.tuple xs) (.tuple ys)) s) : wpAny (model prog w) A (oneLt' f a b) Q E s := by
  have hal : alike (.tuple xs) (.tuple ys) = true := by simpa [alike] using h
  cases f with
  | false => exact oneLt_alike (fun z => by cases z) ra rb hal (fun z => by cases z) hu hq
  | true =>
    cases ra with
    | @tuple l o vs n _ as₁ g1 g2 g3 g4 =>
      cases rb with
      | @tuple l' o' vs' n' _ bs₁ k1 k2 k3 k4 =>
        have z1 : vs.size = xs.length := by simpa using ReadsAll.length _ _ _ g4
        have z2 : vs'.size = ys.length := by simpa using ReadsAll.length _ _ _ k4
        rw [dataLt_tuple, ← firstLt_toks xs ys h, ← z1, ← z2] at hq
        rw [oneLt'_eq]
        simp only [if_true]
        refine wpAny_bind (wpAny_cRoomFor (room_here hu) ?_)
        refine wpAny_bind (wpAny_callSpecialIfBound?_slot (T := "tuple") ⟨_, g1, g2⟩ F.slot_tuple_lt (tup_lt_call (e := pairEq xs ys) (r := fun j => dataLt (xs.getD j .none) (ys.getD j .none)) ⟨_, g1, g2, _, g3⟩ ⟨_, k1, k2, _, k3⟩ (fun j j1 j2 => ?_) (fun j j1 j2 hj => ?_) ?_))
        · rw [← Array.getElem_toList, ← Array.getElem_toList]
          exact eqAt_alikeAll xs ys A.in1 s vs.toList vs'.toList _ _ g4 k4 h (room_in hu) j (by simpa using j1) (by simpa using j2)
        · rw [← Array.getElem_toList, ← Array.getElem_toList]
          exact rcLt_alikeAll xs ys A.in1 s vs.toList vs'.toList _ _ g4 k4 h (room_in hu) j (by simpa using j1) (by simpa using j2) hj
        · exact wpAny_truthy_bool hq
/-- a tuple's first item -/
def headOf (h : Heap) : Value → Option Value
  | .ref a => match h.get? a with
    | some o => match o.data with
      | .seq xs _ => xs[0]?
      | _ => none
    | none => none
  | _ => none
theorem heads {M : Model} : ∀ (vs : List Value) {Q : List (Option Value) → Shared → Prop}, (∀ v ∈ vs, ∃ a xs, v = .ref a ∧ s.heap.IsTuple a xs) → Q (vs.map (headOf s.heap)) s → wpAny M A (vs.mapM firstOfTuple') Q E s
  | [], _, _, q => by rw [List.mapM_nil]; exact wpAny_pure q
  | v :: vs, Q, h, q => by
    obtain ⟨a, xs, rfl, o, ho, hc, n, hd⟩ := h v List.mem_cons_self
    rw [List.mapM_cons]
    refine wpAny_bind ?_
    rw [kas_first_eq]
    refine wpAny_bind (wpAny_typeOf ⟨o, ho, hc⟩ ?_)
    rw [if_neg (by simp)]
    refine wpAny_bind (listItems_at ho hd (wpAny_pure ?_))
    refine wpAny_bind (heads vs (fun v hv => h v (List.mem_cons_of_mem _ hv)) (wpAny_pure ?_))
    have e : headOf s.heap (.ref a) = xs[0]? := by unfold headOf; dsimp only; rw [ho]; dsimp only; rw [hd]
    rw [List.map_cons, e] at q
    exact q
theorem SortsAt.tups {vs : List Value} {ds : List PyData} (e : EachIs (fun v d => ∃ as, Reads s.heap v d as) vs ds) (hal : AllAlike ds) (ht : ∀ d ∈ ds, ∃ xs, d = .tuple xs) (hu : ∀ d ∈ ds, A.units + d.depth < cLine) :
    SortsAt prog w A s (dataKind s.heap ds) vs := by
  by_cases hne : ∀ d ∈ ds, ∃ x r, d = .tuple (x :: r)
  · exact SortsAt.data e hal (.inl hne) hu
  · have room : ∀ {d d' : PyData}, d ∈ ds → A.units + min d.depth d'.depth < cLine := fun {d d'} hd => Nat.lt_of_le_of_lt (Nat.add_le_add_left (Nat.min_le_left _ _) _) (hu d hd)
    have ltA : ∀ (f : Bool) (E : Value → Shared → Prop) (x y : Value) (a b : (dataKind s.heap ds).α) {Q : Bool → Shared → Prop}, (dataKind s.heap ds).keyOf x = some a → (dataKind s.heap ds).keyOf y = some b → Q ((dataKind s.heap ds).blt a b) s → wpAny (model prog w) A (oneLt' f x y) Q E s := fun f E x y a b Q ha hb hq => by
      obtain ⟨d, as, hd, ra, rfl⟩ := dataKind_inv ha
      obtain ⟨d', as', hd', rb, rfl⟩ := dataKind_inv hb
      have hdd := hal d hd d' hd'
      have hr := room (d' := d') hd
      obtain ⟨xs, rfl⟩ := ht d hd
      obtain ⟨ys, rfl⟩ := ht d' hd'
      exact tup_one ra rb (by simpa [alike] using hdd) hr hq
    have isT : ∀ v ∈ vs, ∃ a xs, v = .ref a ∧ s.heap.IsTuple a xs := fun v hv => by
      obtain ⟨d, hd, as, r⟩ := e.left v hv
      obtain ⟨xs, rfl⟩ := ht d hd
      cases r with
      | @tuple l o us n _ _ g1 g2 g3 g4 => exact ⟨l, us, rfl, o, g1, g2, n, g3⟩
    have some_none : ((vs.map (headOf s.heap)).all (·.isSome)) = false := by
      obtain ⟨d, hd⟩ := Classical.not_forall.mp hne
      obtain ⟨hd, hx⟩ := Classical.not_imp.mp hd
      obtain ⟨xs, rfl⟩ := ht d hd
      cases xs with
      | cons x r => exact absurd ⟨x, r, rfl⟩ hx
      | nil =>
        obtain ⟨v, hv, as, r⟩ := each_right e _ hd
        rw [List.all_eq_false]
        refine ⟨headOf s.heap v, List.mem_map.mpr ⟨v, hv, rfl⟩, ?_⟩
        cases r with
        | @tuple l o us n _ _ g1 g2 g3 g4 =>
          have z : us.size = 0 := by simpa using ReadsAll.length _ _ _ g4
          have e0 : headOf s.heap (.ref l) = us[0]? := by unfold headOf; dsimp only; rw [g1]; dsimp only; rw [g3]
          rw [e0, Array.getElem?_eq_none (by omega)]
          simp
    refine ⟨fun v hv => ?_, ?_⟩
    · obtain ⟨d, hd, as, r⟩ := e.left v hv
      exact ⟨_, dataKind_some hal hd r⟩
    · cases hf : ((vs.map (headOf s.heap))[0]?.bind id).isSome with
      | true =>
        refine ⟨general', fun E x y a b Q ha hb hq => ltA false E x y a b ha hb hq, fun h2 E Q hq => ?_⟩
        rw [keyKind'_eq, List.mapM_toArray, map_eq_pure_bind]
        refine wpAny_bind (wpAny_bind (heads vs isT (wpAny_pure ?_)))
        rw [if_neg (by simpa using some_none), if_pos (by simpa using hf)]
        exact wpAny_pure hq
      | false =>
        refine ⟨oneType', fun E x y a b Q ha hb hq => by rw [keyLt'_oneType]; exact ltA true E x y a b ha hb hq, fun h2 E Q hq => ?_⟩
        rw [keyKind'_eq, List.mapM_toArray, map_eq_pure_bind]
        refine wpAny_bind (wpAny_bind (heads vs isT (wpAny_pure ?_)))
        rw [if_neg (by simpa using some_none), if_neg (by simpa using hf)]
        rw [oneTypeOnly'_eq, List.mapM_toArray, map_eq_pure_bind]
        refine wpAny_bind (wpAny_bind (wpAny_bind (kas_mapM (r := Value.type "tuple") _ (fun v hv Q' hq' => ?_) (wpAny_pure ?_))))
        · obtain ⟨a, xs, rfl, o, ho, hc, n, hd⟩ := isT v hv
          exact wpAny_typeOf ⟨o, ho, hc⟩ hq'
        · cases vs with
          | nil => exact absurd h2 (by simp)
          | cons v rest =>
            have h0 : ((v :: rest).map fun _ => Value.type "tuple").toArray[0]? = some (Value.type "tuple") := by simp
            have h3 : ((v :: rest).map fun _ => Value.type "tuple").toArray.all (fun x => x == Value.type "tuple") = true := by simp
            rw [h0]
            simp only [h3, if_true]
            exact wpAny_pure (wpAny_pure hq)
/-- sorted(x), x anything whose items are tuples of one shape -/
theorem sorted_tups_of {β : Type} {x : Value} {Pv : List Value → List β → Prop} {R : Value → β → Prop} {enc : β → PyData} {Q : Value → Shared → Prop}
    (hcol : ∀ (E' : Value → Shared → Prop) (Q' : List Value → Shared → Prop), (∀ s1 vs bs, (∀ b o, s.heap.get? b = some o → s1.heap.get? b = some o) → s1.gens = s.gens → s1.os = s.os → s.heap.objs.size ≤ s1.heap.objs.size → Pv vs bs → Q' vs s1) → wpAny (model prog w) A.in1 (collect x) Q' E' s)
    (hP : ∀ vs bs, Pv vs bs → EachIs R vs bs ∧ EachIs (fun v b => ∃ as, Reads s.heap v (enc b) as) vs bs ∧ AllAlike (bs.map enc) ∧ (∀ d ∈ bs.map enc, ∃ xs, d = .tuple xs) ∧ (∀ d ∈ bs.map enc, A.units + 2 + d.depth < cLine) ∧ vs.length ≤ sizeLine)
    (hQ : ∀ s' p (out : Array Value) c vs bs, (∀ b o, s.heap.get? b = some o → s'.heap.get? b = some o) → s'.gens = s.gens → s'.os = s.os → s.heap.objs.size ≤ p → s'.heap.get? p = some (seqObj "list" out c) → Pv vs bs → EachIs R out.toList (bs.mergeSort (dataLe false enc)) → Q (.ref p) s') :
    wpAny (model prog w) A (call (.builtin "sorted") [x]) Q E s := by
  refine Calls.call_function_entry kind_sorted plain_sorted entry_sorted (args_sorted1 _) ?_
  unfold Builtin.«sorted»
  refine wpAny_bind (m := checkCount "sorted" 1 1 _) (wpAny_pure ?_)
  refine wpAny_bind (hcol _ _ fun s1 vs bs k1 g1 o1 hz hp => ?_)
  obtain ⟨e, er, hal, ht, hu, hL⟩ := hP vs bs hp
  refine wpAny_bind (wpAny_newList ?_ hL)
  have hoL : (s1.heap.push (seqObj "list" vs.toArray 0)).get? s1.heap.objs.size = some (seqObj "list" vs.toArray 0) := Heap.get?_push_size _ rfl
  have kk : ∀ b o, s.heap.get? b = some o → (s1.heap.push (seqObj "list" vs.toArray 0)).get? b = some o := fun b o h => Heap.get?_push_of_some _ (k1 b o h)
  have lt : ∀ b o, s.heap.get? b = some o → b ≠ s1.heap.objs.size := fun b o h => Nat.ne_of_lt (Nat.lt_of_lt_of_le (Heap.lt_size h) hz)
  have er' : EachIs (fun v b => ∃ as, Reads (sortingHeap (s1.heap.push (seqObj "list" vs.toArray 0)) s1.heap.objs.size vs) v (enc b) as) vs bs := er.mono fun _ _ ⟨as, r⟩ => ⟨as, PyProof.Rows.Reads.keeps (fun b o h => sortingHeap_old (lt b o h) (kk b o h)) r⟩
  refine wpAny_bind (wpAny_holding (wpAny_call_entry slot_list_sort ⟨_, hoL, rfl⟩ entry_list_sort (list_sort_vals (s := { s1 with heap := s1.heap.push (seqObj "list" vs.toArray 0) }) hoL (SortsAt.tups (each_map (R := fun v d => ∃ as, Reads (sortingHeap (s1.heap.push (seqObj "list" vs.toArray 0)) s1.heap.objs.size vs) v d as) enc er') hal ht hu) hL ⟨_, rfl, ?_⟩) (args_list_sort _)))
  obtain ⟨c, hc⟩ := sortedHeap_at (vs := vs) (out := (sortVals (dataKind (sortingHeap (s1.heap.push (seqObj "list" vs.toArray 0)) s1.heap.objs.size vs) (bs.map enc)) false vs vs).toArray) hoL
  refine wpAny_pure ⟨_, rfl, hQ _ s1.heap.objs.size _ c vs bs (fun b o h => ?_) g1 o1 hz hc hp ?_⟩
  · have := kk b o h
    show (sortedHeap _ _ _ _).get? b = some o
    rw [sortedHeap_old (lt b o h) (Heap.lt_size this)]
    exact this
  · exact sortVals_data false e er' hal
end
end L3
namespace L3
open PySem PySem.Spec PyProof.Rows L2
open PySem.W (EachIs AllAlike dataLe alike dataLt)
section
variable {P : Program} {w : World} {A : Around} {E : Value → Shared → Prop} {s : Shared}
theorem strs_are {k : List Str} {vs : List Value} (h : ItemsAre (PySem.strKind P w) k vs) : ∀ v ∈ vs, ∃ x t, v = Value.str x t := by
  induction h with
  | nil => intro v hv; cases hv
  | @cons x u ks us h1 _ ih =>
    intro v hv
    rcases List.mem_cons.mp hv with rfl | hv
    · obtain ⟨t, e⟩ := Value.isStrOf_shape h1
      exact ⟨x, t, e⟩
    · exact ih v hv
theorem str_noclass (n : Nat) (x : Str) (t : Tok) : ofAClassStatement n (.str x t) = pure false := by cases n <;> rfl
theorem str_byvalue (n : Nat) (x : Str) (t : Tok) : hashByValue n (.str x t) = pure false := by cases n <;> rfl
theorem tup_noclass {k : List Str} {b : Addr} {Q : Bool → Shared → Prop} (hk : IsTupleKey (PySem.strKind P w) s.heap k b) (q : Q false s) : wpAny (model P w) A (ofAClassStatement 8 (.ref b)) Q E s := by
  have ty := hk.typeIs
  obtain ⟨o, its, n, ho, _, hd, hi⟩ := hk
  unfold ofAClassStatement
  refine wpAny_bind (wpAny_typeOf ty ?_)
  dsimp only
  simp only [show (("tuple" : String) == "tuple") = true by decide, if_true, Bool.not_true, Bool.false_eq_true, if_false]
  try refine wpAny_bind (wpAny_pure ?_)
  try simp only [Bool.not_true, Bool.false_eq_true, if_false]
  show wpAny _ _ (seqItems? (.ref b) >>= _) _ _ s
  refine wpAny_bind (wpAny_seqItems ho hd ?_)
  dsimp only
  refine wpAny_bind ?_
  show wpAny _ _ (forIn its _ _) _ _ s
  rw [← Array.forIn_toList]
  refine wpAny_forIn_list _ (fun l r s' => r.1 = none ∧ s' = s ∧ ∀ v ∈ l, ∃ x t, v = Value.str x t) _ (fun v l r s' i => ?_) (fun r s' i => ?_) _ _ ⟨rfl, rfl, strs_are hi⟩
  · obtain ⟨_, rfl, al⟩ := i
    obtain ⟨x, t, rfl⟩ := al v List.mem_cons_self
    rw [str_noclass]
    refine wpAny_bind (wpAny_pure ?_)
    simp only [Bool.false_eq_true, if_false]
    exact wpAny_pure ⟨rfl, rfl, fun u hu => al u (List.mem_cons_of_mem _ hu)⟩
  · obtain ⟨r1, r2⟩ := r
    obtain ⟨e, rfl, _⟩ := i
    dsimp only at e
    subst e
    exact wpAny_pure q
theorem tup_byvalue {k : List Str} {b : Addr} {Q : Bool → Shared → Prop} (hk : IsTupleKey (PySem.strKind P w) s.heap k b) (q : ∀ c, Q c s) : wpAny (model P w) A (hashByValue 8 (.ref b)) Q E s := by
  have ty := hk.typeIs
  obtain ⟨o, its, n, ho, _, hd, hi⟩ := hk
  unfold hashByValue
  refine wpAny_bind (wpAny_specialOf ty PySem.F.slot_tuple_hash.lookup ?_)
  show wpAny _ _ (seqItems? (.ref b) >>= _) _ _ s
  refine wpAny_bind (wpAny_seqItems ho hd ?_)
  refine wpAny_bind ?_
  show wpAny _ _ (forIn its _ _) _ _ s
  rw [← Array.forIn_toList]
  refine wpAny_forIn_list _ (fun l r s' => r.1 = none ∧ s' = s ∧ ∀ v ∈ l, ∃ x t, v = Value.str x t) _ (fun v l r s' i => ?_) (fun r s' i => ?_) _ _ ⟨rfl, rfl, strs_are hi⟩
  · obtain ⟨_, rfl, al⟩ := i
    obtain ⟨x, t, rfl⟩ := al v List.mem_cons_self
    rw [str_byvalue]
    refine wpAny_bind (wpAny_pure ?_)
    simp only [Bool.not_false, if_true]
    exact wpAny_pure (wpAny_pure (q false))
  · obtain ⟨r1, r2⟩ := r
    obtain ⟨e, rfl, _⟩ := i
    dsimp only at e
    subst e
    exact wpAny_pure (q true)
end
def txK (P : Program) (w : World) : SK P w (List Str) where
  kd := tupleKind (PySem.strKind P w)
  ofc := tup_noclass
  hbv := tup_byvalue
  stays := fun x k => tupleKind_stays.stays k x
/-- a tuple of texts as data -/
def dS (k : List Str) : PyData := .tuple (k.map .str)
theorem strs_alike : ∀ k l : List Str, PySem.W.alikeAll (k.map .str) (l.map .str) = true
  | [], [] => rfl
  | [], _ :: _ => rfl
  | _ :: _, [] => rfl
  | x :: k, y :: l => by
    rw [List.map_cons, List.map_cons, PySem.W.alikeAll, strs_alike k l]
    rfl
theorem dS_alike (k l : List Str) : alike (dS k) (dS l) = true := by
  unfold dS
  simpa [alike] using strs_alike k l
theorem strs_depth : ∀ k : List Str, PyData.depthAll (k.map .str) = 0
  | [] => rfl
  | x :: k => by
    rw [List.map_cons, PyData.depthAll, strs_depth k]
    rfl
theorem dS_depth (k : List Str) : (dS k).depth ≤ 1 := by
  unfold dS
  rw [PyData.depth, strs_depth]
  omega
section
variable {X : Cx} {pins : List (Addr × Obj)} {σ : L2.St} {H : Hp} {s : Shared}
theorem items_strs : ∀ {xs : List V} {us : List Value} {k : List Str}, Vals xs us → DpAll X.K H xs (k.map .str) → ItemsAre (PySem.strKind X.prog X.w) k us
  | [], [], [], _, _ => .nil
  | x :: xs, u :: us, y :: k, .cons r rs, .cons h hs => by
    cases h
    obtain ⟨t, rfl⟩ := r
    exact .cons (by simp [PySem.strKind, Value.isStrOf]) (items_strs rs hs)
  | [], [], y :: k, _, h => by cases h
  | x :: xs, u :: us, [], _, h => by cases h
theorem isS (I : L2.Inv X pins σ H s) {b : Addr} {k : List Str} (h : Dp X.K H (.ref b) (dS k)) : IsTupleKey (PySem.strKind X.prog X.w) s.heap k b := by
  obtain ⟨a, xs, e, hs, ha⟩ := dp_tuple h
  cases e
  obtain ⟨its, rv, ⟨o, ho, hc, n, hd⟩, _⟩ := I.tuple hs
  exact ⟨o, its.toArray, n, ho, hc, hd, by simpa using items_strs rv ha⟩
end
def SetM0 (P : Program) (w : World) (h : Heap) (a : Addr) (L : List (Addr × List Str)) : Prop :=
  ∃ (es : Array (Int × Value)) (ep : Nat) (t : SetTable), (∃ o, h.get? a = some o ∧ o.ExactSet ∧ o.data = .set es ep t) ∧ es.toList = mems (txK P w) L ∧ TabOk t (hshs (txK P w) L) ∧ (L.map Prod.snd).Nodup ∧
    (w.params.followText "set-order" = true ∨ t.led = true) ∧ L.length * 5 < t.mask * 3 ∧ L.length < 64
def SetS (P : Program) (w : World) (a : Addr) (L : List (Addr × List Str)) : HO := .ext fun h => SetM0 P w h a L
theorem SetM.bare {P : Program} {w : World} {h : Heap} {a : Addr} {L : List (Addr × List Str)} {es : Array (Int × Value)} {ep : Nat} {t : SetTable} (R : SetM (txK P w) h a L es ep t) : SetM0 P w h a L :=
  ⟨es, ep, t, R.obj, R.row, R.tab, R.dis, R.ord, R.rm, R.lt⟩
theorem setS_ok {P : Program} {w : World} {H : Hp} {h : Heap} {a : Addr} {L : List (Addr × List Str)} (R : SetM0 P w h a L) : ObjOk P w H h a (SetS P w a L) := by
  obtain ⟨es, ep, t, ⟨o, ho, r⟩, q⟩ := id R
  refine ⟨R, ⟨o, ho⟩, fun h1 h2 p k => ?_⟩
  obtain ⟨es', ep', t', ⟨o', ho', r'⟩, q'⟩ := p
  exact ⟨es', ep', t', ⟨o', k o' ho', r'⟩, q'⟩
section
variable {X : Cx}
theorem refs_vals : ∀ {bs : List (Addr × List Str)} {us : List Value}, Vals (bs.map fun p => V.ref p.1) us → us = bs.map fun p => Value.ref p.1
  | [], _, .nil => rfl
  | p :: bs, _, .cons r t => by
    cases r
    rw [refs_vals t]
    rfl
/-- set(list of tuples of texts) -/
theorem cr_setTT (hc : X.calm = true) (hu : X.A.units + 64 < cLine) : CallR X (.type "set") (fun xs H Q => ∃ (l : Addr) (bs : List (Addr × List Str)), xs = [.ref l] ∧ SqL X.K H l (bs.map fun p => V.ref p.1) ∧ (∀ p ∈ bs, Dp X.K H (.ref p.1) (dS p.2)) ∧ bs.length < 64 ∧
    ∀ a L, H a = none → (∀ p ∈ L, p ∈ bs) → (∀ p ∈ bs, p.2 ∈ L.map Prod.snd) → (L.map Prod.snd).Nodup → L.length ≤ bs.length → Q (.ref a) (upd H a (SetS X.prog X.w a L))) := by
  intro pins s σ H xs us Q I r h
  obtain ⟨l, bs, rfl, hl, hd, hf, q⟩ := h
  rw [Vals.ref1 r]
  obtain ⟨its, rv, pl, _⟩ := I.list hl
  refine call_setM (m := txK X.prog X.w) bs (I.ok.hd hc) pl.isList (by simpa using refs_vals rv) (fun p hp => isS I (hd p hp)) hf (show _ < cLine by simp; omega) fun h' tk L es ep t R g k => ?_
  exact ⟨.ref s.heap.objs.size, _, I.laid (t' := tk) k (Nat.le_refl _) (setS_ok R.bare), rfl, q _ L (I.hok.fresh (Nat.le_refl _)) g.sub (fun p hp => g.all p (by rw [List.take_length]; exact hp)) R.dis g.len⟩
theorem perm_map {α β : Type} {f : α → β} {l y : List β} (h : l.Perm y) : ∀ {m : List α}, y = m.map f → ∃ k : List α, k.Perm m ∧ l = k.map f := by
  induction h with
  | nil =>
    intro m e
    cases m with
    | nil => exact ⟨[], .refl _, rfl⟩
    | cons x m => cases e
  | @cons b l1 l2 h ih =>
    intro m e
    cases m with
    | nil => cases e
    | cons x m =>
      cases e
      obtain ⟨k, k1, rfl⟩ := ih rfl
      exact ⟨x :: k, k1.cons x, rfl⟩
  | swap a b l =>
    intro m e
    match m, e with
    | x :: y :: m, e =>
      cases e
      exact ⟨y :: x :: m, .swap _ _ _, rfl⟩
  | trans h1 h2 ih1 ih2 =>
    intro m e
    obtain ⟨k, k1, rfl⟩ := ih2 e
    obtain ⟨k', k2, rfl⟩ := ih1 rfl
    exact ⟨k', k2.trans k1, rfl⟩
theorem each_refs {H : Hp} {pins : List (Addr × Obj)} {σ : L2.St} {s : Shared} (I : L2.Inv X pins σ H s) : ∀ {bs : List (Addr × List Str)}, (∀ p ∈ bs, Dp X.K H (.ref p.1) (dS p.2)) →
    EachIs (fun u p => u = Value.ref p.1) (bs.map fun p => Value.ref p.1) bs ∧ EachIs (fun v b => ∃ as, Reads s.heap v (dS b.2) as) (bs.map fun p => Value.ref p.1) bs
  | [], _ => ⟨.nil, .nil⟩
  | p :: bs, h => by
    obtain ⟨e1, e2⟩ := each_refs I (bs := bs) fun q hq => h q (List.mem_cons_of_mem _ hq)
    exact ⟨.cons rfl e1, .cons (Dp.reads I _ _ _ (h p List.mem_cons_self) rfl) e2⟩
theorem each_back : ∀ {us : List Value} {bs : List (Addr × List Str)}, EachIs (fun u p => u = Value.ref p.1) us bs → us = bs.map fun p => Value.ref p.1
  | _, _, .nil => rfl
  | _, _, .cons h t => by rw [h, each_back t, List.map_cons]
/-- the products (as texts) in their order -/
def srtS (bs : List (Addr × List Str)) : List (Addr × List Str) := bs.mergeSort (dataLe false fun p => dS p.2)
theorem sorted_srt (hc : X.calm = true) (hu : X.A.units + 64 < cLine) {pins : List (Addr × Obj)} {s : Shared} {σ : L2.St} {H : Hp} (I : L2.Inv X pins σ H s) {x : Value} {Pb : List (Addr × List Str) → Prop}
    (hcol : ∀ (E' : Value → Shared → Prop) (Q' : List Value → Shared → Prop), (∀ s1 bs, (∀ b o, s.heap.get? b = some o → s1.heap.get? b = some o) → s1.gens = s.gens → s1.os = s.os → s.heap.objs.size ≤ s1.heap.objs.size → Pb bs → Q' (bs.map fun p => Value.ref p.1) s1) → wpAny (model X.prog X.w) X.A.in1 (collect x) Q' E' s)
    (hP : ∀ bs, Pb bs → (∀ p ∈ bs, Dp X.K H (.ref p.1) (dS p.2)) ∧ bs.length ≤ sizeLine) {Q : VK} {E : Value → Shared → Prop}
    (q : ∀ bs p, Pb bs → H p = none → Q (.ref p) (upd H p (.lst ((srtS bs).map fun p => V.ref p.1)))) :
    wpAny (model X.prog X.w) X.A (call (.builtin "sorted") [x]) (EP X pins σ Q) E s := by
  refine sorted_tups_of (Pv := fun vs bs => Pb bs ∧ vs = bs.map fun p => Value.ref p.1) (R := fun u p => u = Value.ref p.1) (enc := fun p => dS p.2) (fun E' Q' k => hcol E' Q' fun s1 bs h1 h2 h3 h4 h5 => k s1 _ bs h1 h2 h3 h4 ⟨h5, rfl⟩) (fun vs bs h => ?_) (fun s' p out c vs bs k g o hp hg h e => ?_)
  · obtain ⟨h, rfl⟩ := h
    obtain ⟨h1, h2⟩ := hP bs h
    obtain ⟨e1, e2⟩ := each_refs I h1
    refine ⟨e1, e2, AllAlike.of fun b b' => dS_alike _ _, fun d hd => ?_, fun d hd => ?_, by rw [List.length_map]; exact h2⟩
    · obtain ⟨b, _, rfl⟩ := List.mem_map.mp hd
      exact ⟨_, rfl⟩
    · obtain ⟨b, _, rfl⟩ := List.mem_map.mp hd
      have := dS_depth b.2
      omega
  · obtain ⟨h, rfl⟩ := h
    obtain ⟨h1, h2⟩ := hP bs h
    have hn : H p = none := I.hok.fresh hp
    have hout : out.toList = (srtS bs).map fun p => Value.ref p.1 := each_back e
    have hl : ((srtS bs).map fun p => V.ref p.1).length ≤ sizeLine := by unfold srtS; rw [List.length_map, List.length_mergeSort]; exact h2
    have rv : ∀ l : List (Addr × List Str), Vals (l.map fun p => V.ref p.1) (l.map fun p => Value.ref p.1) := fun l => by
      induction l with
      | nil => exact .nil
      | cons x l ih => exact .cons rfl ih
    have J : Inv X pins σ (upd H p (.lst ((srtS bs).map fun p => V.ref p.1))) { s with heap := s'.heap, gens := s'.gens, drawn := s'.drawn, toks := s'.toks } :=
      I.call (ch := []) (Un.laid k hp hn) (I.hok.laid k hp ⟨hl, out.toList, c, by rw [hout]; exact rv _, hg⟩) (by rw [g]; exact I.bare) (fun _ z => nomatch z)
    have e' : s' = { s with heap := s'.heap, gens := s'.gens, drawn := s'.drawn, toks := s'.toks } := by
      cases s'
      cases s
      cases o
      rfl
    rw [e']
    exact ⟨.ref p, _, J, rfl, q bs p h hn⟩
/-- sorted(set of tuples of texts) -/
theorem cr_sortTS (hc : X.calm = true) (hu : X.A.units + 64 < cLine) : CallR X (.builtin "sorted") (fun vs H Q => ∃ (a : Addr) (L : List (Addr × List Str)), vs = [.ref a] ∧ H a = some (SetS X.prog X.w a L) ∧ (∀ p ∈ L, Dp X.K H (.ref p.1) (dS p.2)) ∧
    ∀ p bs, bs.Perm L → H p = none → Q (.ref p) (upd H p (.lst ((srtS bs).map fun p => V.ref p.1)))) := by
  intro pins s σ H vs us Q I r h
  obtain ⟨a, L, rfl, ha, hd, q⟩ := h
  rw [Vals.ref1 r]
  obtain ⟨es, ep, t, ⟨o, ho, hex, hdt⟩, row, tab, dis, ord, rm, lt⟩ := (show SetM0 X.prog X.w s.heap a L from (I.hok a _ ha).1)
  have z : es.size = L.length := rows_size row
  have tz := tab.sz
  rw [hshs_len] at tz
  have fits : t.fits es.size = true := by
    simp only [SetTable.fits, SetTable.fill, tab.dm, Bool.and_eq_true, beq_iff_eq, decide_eq_true_eq]
    exact ⟨by omega, by show t.place.size + 0 ≤ t.mask; omega⟩
  refine sorted_srt hc hu I (Pb := fun b => b.Perm L) (fun E' Q' k => ?_) (fun b e => ⟨fun p hp => hd p (e.mem_iff.mp hp), by rw [e.length_eq, sizeLine_eq]; omega⟩) (fun b p e hp => q p b e hp)
  refine L2.collect_set (A := X.A.in1) (I.ok.hd hc) ⟨o, ho, hex.1, hdt⟩ fits (by unfold scanBound; omega) tab.ris ord fun s1 vs k1 hz g1 o1 pm => ?_
  have e : es.toList.map (·.2) = L.map fun p => Value.ref p.1 := by rw [row]; unfold mems; rw [List.map_map]; rfl
  rw [e] at pm
  obtain ⟨bs, hb, rfl⟩ := perm_map pm rfl
  exact k _ _ k1 g1 o1 hz hb
def storeE (es : List EntN) (x : EntN) : List EntN := if (valN es (keyN x.1)).isSome then es.map fun y => if keyN y.1 = keyN x.1 then (y.1, y.2.1, x.2.2) else y else es ++ [x]
theorem KN.store {es : List EntN} {xs : List (NestedKey × Addr × Value)} (r : KN es xs) {p : EntN} {q : NestedKey × Addr × Value} (h : q.1 = keyN p.1 ∧ q.2.1 = p.2.1 ∧ RelV p.2.2 q.2.2) : KN (storeE es p) (storedH xs q.1 q.2.1 q.2.2) := by
  have hv := r.val q.1
  rw [h.1] at hv
  unfold storeE
  cases ea : atKey xs q.1 with
  | none =>
    rw [← h.1] at hv ⊢
    rw [ea] at hv
    have en : valN es q.1 = none := by
      cases ev : valN es q.1 with
      | none => rfl
      | some v => rw [ev] at hv; exact hv.elim
    rw [storedH_new ea, en, if_neg (by simp)]
    exact r.snoc h
  | some pv =>
    rw [← h.1] at hv ⊢
    rw [ea] at hv
    have en : (valN es q.1).isSome = true := by
      cases ev : valN es q.1 with
      | none => rw [ev] at hv; exact hv.elim
      | some v => rfl
    rw [storedH_old ea, if_pos en]
    clear ea hv en
    unfold KN at r ⊢
    induction r with
    | nil => exact .nil
    | @cons y z ys zs hh t ih =>
      refine .cons ?_ ih
      obtain ⟨h1, h2, h3⟩ := hh
      unfold putAt
      dsimp only
      by_cases e : keyN y.1 = q.1
      · rw [if_pos e, if_pos (h1.trans e)]
        exact ⟨h1, h2, h.2.2⟩
      · rw [if_neg e, if_neg (fun w => e (h1.symm.trans w))]
        exact ⟨h1, h2, h3⟩
def storeAll (es ps : List EntN) : List EntN := ps.foldl storeE es
theorem KN.storeAll {ps : List EntN} {qs : List (NestedKey × Addr × Value)} (h : KN ps qs) : ∀ {es : List EntN} {xs : List (NestedKey × Addr × Value)}, KN es xs → KN (storeAll es ps) (storedAllH xs qs) := by
  unfold KN at h
  induction h with
  | nil => intro es xs r; exact r
  | cons hh t ih => intro es xs r; exact ih (r.store hh)
theorem storeE_len (es : List EntN) (x : EntN) : (storeE es x).length ≤ es.length + 1 := by
  unfold storeE
  split
  · rw [List.length_map]; omega
  · rw [List.length_append]; exact Nat.le_refl _
theorem storeAll_len : ∀ (ps es : List EntN), (storeAll es ps).length ≤ es.length + ps.length
  | [], es => Nat.le_refl _
  | x :: ps, es => by
    have := storeAll_len ps (storeE es x)
    have := storeE_len es x
    show (storeAll (storeE es x) ps).length ≤ _
    rw [List.length_cons]
    omega
theorem rel_vals : ∀ {ts : List Addr} {us : List Value}, Vals (ts.map V.ref) us → us = ts.map Value.ref
  | [], _, .nil => rfl
  | t :: ts, _, .cons r h => by
    cases r
    rw [rel_vals h]
    rfl
/-- the pairs as they lie in the list: their tuples ts -/
theorem cr_dictN (hc : X.calm = true) (hu : X.A.units + 64 < cLine) : CallR X (.type "dict") (fun vs H Q => ∃ (l : Addr) (ts : List Addr) (ps : List EntN), vs = [.ref l] ∧ SqL X.K H l (ts.map V.ref) ∧ Paired (fun (t : Addr) (p : EntN) => SqT X.K H t [.ref p.2.1, p.2.2]) ts ps ∧ Keys X.K H ps ∧
    ∀ a, H a = none → Q (.ref a) (upd H a (TN X.prog X.w a (storeAll [] ps)))) := by
  intro pins s σ H vs us Q I r h
  obtain ⟨l, ts, ps, rfl, hl, hp, hk, q⟩ := h
  rw [Vals.ref1 r]
  obtain ⟨its, rv, pl, hz⟩ := I.list hl
  obtain rfl := rel_vals rv
  have hn : ts.length = ps.length := hp.length
  rw [List.length_map] at hz
  have vals : ∀ {ts : List Addr} {ps : List EntN}, Paired (fun (t : Addr) (p : EntN) => SqT X.K H t [.ref p.2.1, p.2.2]) ts ps → ∃ qs : List (NestedKey × Addr × Value), KN ps qs ∧ ∀ (j : Nat) (t : Addr) (q : NestedKey × Addr × Value), ts[j]? = some t → qs[j]? = some q → PairAt s.heap t (.ref q.2.1) q.2.2 := by
    intro ts ps h
    induction h with
    | nil => exact ⟨[], .nil, fun j t q e => by simp at e⟩
    | @cons t p ts ps h1 _ ih =>
      obtain ⟨qs, r1, r2⟩ := ih
      obtain ⟨jt, rt, ⟨o, ho, hcl, n, hd⟩, _⟩ := I.tuple h1
      cases rt with
      | cons ra rb =>
        cases rb with
        | @cons _ u _ _ rc rd =>
          cases rd
          cases ra
          refine ⟨(keyN p.1, p.2.1, u) :: qs, .cons ⟨rfl, rfl, rc⟩ r1, fun j t' q e1 e2 => ?_⟩
          cases j with
          | zero =>
            cases e1
            cases e2
            exact .inl ⟨o, ho, hcl, n, by simpa using hd⟩
          | succ j => exact r2 j t' q e1 e2
  obtain ⟨qs, rq, hat⟩ := vals hp
  have ql : qs.length = ps.length := (show Paired _ _ _ from rq).length.symm
  have keys : ∀ {l : List EntN} {m : List (NestedKey × Addr × Value)}, KN l m → Keys X.K H l → ∀ x ∈ m, (nestedKind X.prog X.w).is s.heap x.1 x.2.1 := by
    intro l m q
    unfold KN at q
    induction q with
    | nil => intro _ x hx; exact nomatch hx
    | @cons p q ps qs hq t ih =>
      intro hz x hx
      rcases List.mem_cons.mp hx with e | hx
      · subst e
        obtain ⟨d1, d2, d3⟩ := hz p List.mem_cons_self
        refine ⟨?_, by rw [hq.1]; exact d3⟩
        rw [hq.1, hq.2.1]
        exact nested_of I p.1 _ _ d1 rfl d2
      · exact ih (fun z hz' => hz z (List.mem_cons_of_mem _ hz')) x hx
  have item : ∀ (j : Nat) (q : NestedKey × Addr × Value), qs[j]? = some q → ∃ t, ts[j]? = some t ∧ PairAt s.heap t (.ref q.2.1) q.2.2 := fun j q e => by
    have hj := (List.getElem?_eq_some_iff.mp e).1
    have ht := List.getElem?_eq_getElem (l := ts) (i := j) (by omega)
    exact ⟨_, ht, hat j _ q ht e⟩
  have il : (ts.map Value.ref).toArray.size = (qs.map fun q => (Value.ref q.2.1, q.2.2)).length := by rw [List.size_toArray, List.length_map, List.length_map]; omega
  refine call_dict_pairsH (knd := nestedKind X.prog X.w) (ps := qs) (PairArg.list l (ts.map Value.ref).toArray (fun j => ts.getD j 0) (qs.map fun q => (Value.ref q.2.1, q.2.2))) (I.ok.hd hc) (by show _ + 8 < cLine; simp; omega)
    ⟨let ⟨o, n, h1, h2, h3, h4⟩ := pl; ⟨o, n, h1, h2, h3, h4⟩, il, fun j k v hj => ?_⟩ ⟨by rw [List.length_map], fun i key v hr => ?_⟩ (fun h' hk' x hx => nestedKind_stays.stays (fun b o vs n e _ => hk' b o (Nat.ne_of_lt (Heap.lt_size e)) (by simp) e) (keys rq hk x hx)) (by rw [List.length_map]; omega) fun h' tk hd k => ?_
  · rw [List.getElem?_map] at hj
    obtain ⟨q, hq, e⟩ := Option.map_eq_some_iff.mp hj
    cases e
    obtain ⟨t, ht, hp⟩ := item j q hq
    have e2 : ts.getD j 0 = t := by rw [List.getD_eq_getElem?_getD, ht]; rfl
    dsimp only
    rw [e2]
    exact ⟨by simp [ht], hp⟩
  · unfold PairRel at hr
    rw [List.getElem?_map] at hr
    obtain ⟨q, hq, e⟩ := Option.map_eq_some_iff.mp hr
    cases e
    exact ⟨q.1, q.2.1, hq, rfl⟩
  · have k' : ∀ b o, s.heap.get? b = some o → h'.get? b = some o := fun b o e => k b o (by simp) e
    have hl2 : (storeAll [] ps).length ≤ sizeLine := Nat.le_trans (storeAll_len ps []) (by rw [List.length_nil]; omega)
    obtain ⟨o, es, ep, ho, hex, hdt, he, _, nd⟩ := hd
    have hb := L2.Inv.big I
    have ns : (s.heap.objs.size == sysModules) = false := by
      simp only [beq_eq_false_iff_ne, ne_eq]
      intro z
      rw [z] at hb
      exact absurd hb (Nat.lt_irrefl _)
    refine ⟨.ref s.heap.objs.size, _, I.laid (a := s.heap.objs.size) (o := TN X.prog X.w s.heap.objs.size (storeAll [] ps)) (t' := tk) k' (Nat.le_refl _) ?_, rfl, q _ (I.hok.fresh (Nat.le_refl _))⟩
    exact ⟨⟨ns, hl2, _, KN.storeAll rq .nil, nd, o, es, ep, ho, hex, hdt, he⟩, ⟨o, ho⟩, fun h1 h2 ⟨a1, a2, ws, a3, a4, q, en, ep, b1, b2⟩ k => ⟨a1, a2, ws, a3, a4, q, en, ep, k _ b1, b2⟩⟩
/-- what is collected from the keys of a dict (the heap grows) -/
theorem coll_src {prog : Program} {w : World} {A : Around} {E : Value → Shared → Prop} {s : Shared} {T : String} {r d : Addr} {n : Nat} {Pk : Nat → Value → Prop} {OK : Heap → Prop} {R : List Value → Shared → Prop} (K : PySem.W.KdlSrc prog w T r d n Pk OK) (hh : A.handled = none) (ok : OK s.heap) (hn : n ≤ sizeLine)
    (q : ∀ (h' : Heap) (tk : Nat) (acc : Array Value), (∀ b o, s.heap.get? b = some o → h'.get? b = some o) → s.heap.objs.size ≤ h'.objs.size → ItemsOf Pk acc n → R acc.toList { s with heap := h', toks := tk }) : wpAny (model prog w) A (collect (.ref r)) R E s := by
  have here := K.there _ ok
  have new : (s.heap.push { cls := .type "list", data := .seq ([] : List Value).toArray }).get? s.heap.objs.size = some { cls := .type "list", data := .seq #[] } := Heap.get?_push_size _ rfl
  unfold collect
  refine wpAny_bind (wpAny_runValue (codeAny_builtin entry_proto_collect' ?_))
  rw [Around.under_plainId PySem.F.plain_proto_collect _]
  show wpAny _ A.in1 (newList [] >>= fun l => again (.builtin "list.__iadd__" ⟨[l, .ref r], []⟩)) _ _ s
  refine wpAny_bind (wpAny_newObj_type (wpAny_pure ⟨plainId_quiet PySem.F.plain_list_iadd _, codeAny_builtin entry_list_iadd' ?_⟩))
  rw [Around.under_plainId PySem.F.plain_list_iadd _]
  show wpAny _ A.in1 (Builtin.List.listExtendWith (.ref s.heap.objs.size) (.ref r) (.ref s.heap.objs.size)) _ _ _
  refine wpAny_mono (PySem.W.kdl_extend (A := A) (s := { s with heap := s.heap.push { cls := .type "list", data := .seq ([] : List Value).toArray } })
    (R := fun (z : Result) (s' : Shared) => ∃ (h' : Heap) (tk : Nat) (acc : Array Value) (c : Nat), z = .ok (.ret (.ref s.heap.objs.size)) ∧ s' = { s with heap := h', toks := tk } ∧ (∀ b o, s.heap.get? b = some o → h'.get? b = some o) ∧
      h'.get? s.heap.objs.size = some { cls := .type "list", dict := none, data := .seq acc c, slots := #[] } ∧ ItemsOf Pk acc n)
    K hh (K.keep _ _ ok fun b _ o e => Heap.get?_push_of_some _ e) s.heap.objs.size (Nat.ne_of_gt here.1) (Nat.ne_of_gt here.2) (.ref s.heap.objs.size) 0 new
    (fun h' tk acc c k hS ha => ⟨h', tk, acc, c, rfl, rfl, fun b o e => k b o (Nat.ne_of_lt (Heap.lt_size e)) (Heap.get?_push_of_some _ e), hS, ha⟩) hn) (fun fin s' x => ?_) fun e s' x => ?_
  · have fin_ : ∀ s2 : Shared, (∃ (h' : Heap) (tk : Nat) (acc : Array Value) (c : Nat), s2 = { s with heap := h', toks := tk } ∧ (∀ b o, s.heap.get? b = some o → h'.get? b = some o) ∧ h'.get? s.heap.objs.size = some { cls := .type "list", dict := none, data := .seq acc c, slots := #[] } ∧ ItemsOf Pk acc n) →
        wpAny (model prog w) A (load s.heap.objs.size >>= fun o => match o.data with | .seq xs _ => pure xs.toList | _ => unsupported "internal:collect") R E s2 := fun s2 ⟨h', tk, acc, c, e, k, hS, ha⟩ => by
      subst e
      exact wpAny_bind (wpAny_load hS (wpAny_pure (q h' tk acc k (Nat.le_of_lt (Heap.lt_size hS)) ha)))
    cases fin with
    | done f =>
      obtain ⟨h', tk, acc, c, e, y⟩ := x
      cases e
      exact fin_ _ ⟨h', tk, acc, c, y⟩
    | again c' =>
      refine ⟨x.1, codeAny_mono x.2 fun z s2 y => ?_⟩
      obtain ⟨h', tk, acc, c, rfl, y⟩ := y
      exact fin_ _ ⟨h', tk, acc, c, y⟩
  · obtain ⟨_, _, _, _, e', _⟩ := x
    cases e'
/-- sorted(dict), its keys tuples of texts -/
theorem cr_sortTD (hc : X.calm = true) (hu : X.A.units + 64 < cLine) : CallR X (.builtin "sorted") (fun vs H Q => ∃ (a : Addr) (es : List EntN) (bs : List (Addr × List Str)), vs = [.ref a] ∧ H a = some (TN X.prog X.w a es) ∧ es.map (fun x => (x.1, x.2.1)) = bs.map (fun p => (dS p.2, p.1)) ∧ (∀ p ∈ bs, Dp X.K H (.ref p.1) (dS p.2)) ∧
    ∀ p, H p = none → Q (.ref p) (upd H p (.lst ((srtS bs).map fun p => V.ref p.1)))) := by
  intro pins s σ H vs us Q I r h
  obtain ⟨a, es, bs, rfl, ha, he, hd, q⟩ := h
  rw [Vals.ref1 r]
  obtain ⟨h1, h2, xs, rq, nd, o, ens, ep, ho, hex, hdt, hens⟩ := (show ObjOk X.prog X.w H s.heap a (TN X.prog X.w a es) from I.hok a _ ha).1
  have hbl : bs.length = es.length := by have := congrArg List.length he; simpa using this.symm
  have hxl : xs.length = es.length := (show Paired _ _ _ from rq).length.symm
  have hel : ens.size = xs.length := by rw [← Array.length_toList, hens, List.length_map]
  have keyat : ∀ i (hi : i < ens.size) p, bs[i]? = some p → ens[i].key = Value.ref p.1 := fun i hi p hp => by
    have g1 : (es.map (fun x => (x.1, x.2.1)))[i]? = some (dS p.2, p.1) := by rw [he, List.getElem?_map, hp]; rfl
    rw [List.getElem?_map] at g1
    obtain ⟨x, hx, ex⟩ := Option.map_eq_some_iff.mp g1
    have go : ∀ {l : List EntN} {m : List (NestedKey × Addr × Value)} (r : KN l m) (i : Nat) x, l[i]? = some x → ∃ y, m[i]? = some y ∧ y.2.1 = x.2.1 := by
      intro l m r
      unfold KN at r
      induction r with
      | nil => intro i x e; simp at e
      | @cons u v us vs hh t ih =>
        intro i x e
        cases i with
        | zero => cases e; exact ⟨v, rfl, hh.2.1⟩
        | succ i => exact ih i x e
    obtain ⟨y, hy, ey⟩ := go rq i x hx
    have g2 : ens.toList[i]? = some (entryOfKey (nestedKind X.prog X.w) y) := by rw [hens, List.getElem?_map, hy]; rfl
    rw [Array.getElem?_toList, Array.getElem?_eq_getElem hi] at g2
    rw [Option.some.inj g2]
    show Value.ref y.2.1 = _
    rw [ey]
    have := congrArg Prod.snd ex
    exact congrArg Value.ref this
  refine sorted_srt hc hu I (Pb := fun b => b = bs) (fun E' Q' k => ?_) (fun b e => by subst e; exact ⟨hd, by omega⟩) (fun b p e hp => by subst e; exact q p hp)
  refine coll_src (A := X.A.in1) (PySem.KdlSrc.rawDict h1) (I.ok.hd hc) (⟨o, ho, hex, hdt⟩ : s.heap.DictRaw a ens ep) (by omega) fun h' tk acc hk hz hacc => ?_
  have e : acc.toList = bs.map fun p => Value.ref p.1 := by
    refine List.ext_getElem? fun i => ?_
    rw [List.getElem?_map]
    by_cases hi : i < bs.length
    · have hia : i < acc.size := by rw [hacc.1]; omega
      have g := Array.getElem?_eq_getElem hia
      obtain ⟨hj, ev⟩ := hacc.2 i _ g
      rw [Array.getElem?_toList, g, ev, List.getElem?_eq_getElem hi, keyat i hj _ (List.getElem?_eq_getElem hi)]
      rfl
    · rw [List.getElem?_eq_none (show bs.length ≤ i by omega), List.getElem?_eq_none (show acc.toList.length ≤ i by rw [Array.length_toList, hacc.1]; omega)]
      rfl
  rw [e]
  exact k _ bs hk rfl rfl hz rfl
end
end L3
namespace PySem.SeqAt
open AutoSeq1 (wpAny_loadPart')
open MeetsSeq
end PySem.SeqAt
namespace L3
open PySem PySem.Spec PyProof.Rows L2
end L3
namespace L3
open PySem PySem.Spec PyProof.Rows L2
end L3
namespace L3
open PySem PySem.Spec PyProof.Rows L2
end L3
namespace M23
/-- a piece is its text; 42 is the star's sign -/
abbrev Pc := List Nat
abbrev Pd := List Pc
def isS (x : Pc) : Bool := x.getLast? == some 42
def lt (x : Pc) : List Nat := if isS x then x.dropLast else x
def holds (y x : Pc) : Bool := if isS y then (lt x).all fun c => decide (c ∈ lt y) else decide (y = x)
def step : Pd → Pc → Option Pd
  | [], _ => none
  | y :: r, x => if holds y x then some (if isS y then y :: r else r) else step r x
def run : Pd → Pd → Option Pd
  | q, [] => some q
  | q, x :: p => (step q x).bind fun q' => run q' p
inductive Emb : Pd → Pd → Prop
  | nil (q : Pd) : Emb [] q
  | skip {p q : Pd} (y : Pc) : Emb p q → Emb p (y :: q)
  | star {x y : Pc} {p q : Pd} : isS y = true → holds y x = true → Emb p (y :: q) → Emb (x :: p) (y :: q)
  | one {x : Pc} {p q : Pd} : isS x = false → Emb p q → Emb (x :: p) (x :: q)
theorem holds_self (x : Pc) : holds x x = true := by
  unfold holds
  split
  · exact List.all_eq_true.mpr fun c hc => decide_eq_true hc
  · exact decide_eq_true rfl
theorem holds_one {x y : Pc} (h : isS y = false) : holds y x = true ↔ y = x := by
  unfold holds
  rw [h, if_neg (by decide), decide_eq_true_iff]
theorem holds_star {x y : Pc} (h : isS y = true) : holds y x = true ↔ ∀ c ∈ lt x, c ∈ lt y := by
  unfold holds
  rw [if_pos h, List.all_eq_true]
  exact ⟨fun z c hc => of_decide_eq_true (z c hc), fun z c hc => decide_eq_true (z c hc)⟩
theorem holds_trans {x y z : Pc} (hy : isS y = true) (h1 : holds y x = true) (h2 : holds x z = true) : holds y z = true := by
  rw [holds_star hy] at h1 ⊢
  cases hx : isS x with
  | true => exact fun c hc => h1 c ((holds_star hx).mp h2 c hc)
  | false => rw [(holds_one hx).mp h2] at h1; exact h1
theorem Emb.refl : ∀ p : Pd, Emb p p
  | [] => .nil _
  | x :: p => by
    cases h : isS x with
    | true => exact .star h (holds_self x) (.skip x (Emb.refl p))
    | false => exact .one h (Emb.refl p)
theorem Emb.tail {x : Pc} {p q : Pd} (h : Emb (x :: p) q) : Emb p q := by
  generalize e : x :: p = y at h
  induction h generalizing x p with
  | nil => cases e
  | skip y _ ih => exact .skip y (ih e)
  | star _ _ h _ => cases e; exact h
  | @one x' p' q' _ h _ => cases e; exact .skip x' h
theorem emb_nil {p : Pd} (h : Emb p []) : p = [] := by cases h; rfl
theorem Emb.trans {p q r : Pd} (h1 : Emb p q) (h2 : Emb q r) : Emb p r := by
  induction h2 generalizing p with
  | nil r => rw [emb_nil h1]; exact .nil _
  | skip y _ ih => exact .skip y (ih h1)
  | @star x y q' r' hy hyx h ih =>
    have key : ∀ p : Pd, Emb p (x :: q') → Emb p (y :: r') := by
      intro p
      induction p with
      | nil => intro _; exact .nil _
      | cons z p ihp =>
        intro h1
        cases h1 with
        | skip _ h1 => exact ih h1
        | star hx hxz h1 => exact .star hy (holds_trans hy hyx hxz) (ihp h1)
        | one hx h1 => exact .star hy hyx (ih h1)
    exact key p h1
  | @one x q' r' hx h ih =>
    cases h1 with
    | nil => exact .nil _
    | skip _ h1 => exact .skip _ (ih h1)
    | star hx' _ _ => rw [hx] at hx'; cases hx'
    | one _ h1 => exact .one hx (ih h1)
theorem step_suffix : ∀ {q : Pd} {x : Pc} {r : Pd}, step q x = some r → ∃ a, q = a ++ r
  | [], _, _, h => by cases h
  | y :: q, x, r, h => by
    unfold step at h
    split at h
    · cases h
      split
      · exact ⟨[], rfl⟩
      · exact ⟨[y], rfl⟩
    · obtain ⟨a, e⟩ := step_suffix h
      exact ⟨y :: a, by rw [e]; rfl⟩
theorem Emb.app {p q : Pd} (a : Pd) (h : Emb p q) : Emb p (a ++ q) := by
  induction a with
  | nil => exact h
  | cons y a ih => exact .skip y ih
theorem step_emb : ∀ {q : Pd} {x : Pc} {r p : Pd}, step q x = some r → Emb p r → Emb (x :: p) q
  | [], _, _, _, h, _ => by cases h
  | y :: q, x, r, p, h, e => by
    unfold step at h
    split at h
    · rename_i hh
      cases h
      cases hy : isS y with
      | true => rw [hy, if_pos rfl] at e; exact .star hy hh e
      | false =>
        rw [hy, if_neg (by decide)] at e
        have g := (holds_one hy).mp hh
        subst g
        exact .one hy e
    · exact .skip y (step_emb h e)
theorem emb_step {x : Pc} {p q : Pd} (h : Emb (x :: p) q) : ∃ r, step q x = some r ∧ Emb p r := by
  generalize e : x :: p = z at h
  induction h generalizing x p with
  | nil => cases e
  | @skip p' q' y h' ih =>
    obtain ⟨r, h1, h2⟩ := ih e
    by_cases hh : holds y x = true
    · refine ⟨_, by unfold step; rw [if_pos hh], ?_⟩
      obtain ⟨a, ea⟩ := step_suffix h1
      have h3 : Emb p q' := by rw [ea]; exact h2.app a
      split
      · exact .skip y h3
      · exact h3
    · exact ⟨r, by unfold step; rw [if_neg hh]; exact h1, h2⟩
  | @star x' y p' q' hy hh h' ih =>
    cases e
    exact ⟨y :: q', by unfold step; rw [if_pos hh, if_pos hy], h'⟩
  | @one x' p' q' hx h' ih =>
    cases e
    exact ⟨q', by unfold step; rw [if_pos (holds_self _), if_neg (by rw [hx]; decide)], h'⟩
theorem run_emb : ∀ {p q : Pd}, (run q p).isSome = true ↔ Emb p q
  | [], q => ⟨fun _ => .nil q, fun _ => rfl⟩
  | x :: p, q => by
    constructor
    · intro h
      unfold run at h
      cases hs : step q x with
      | none => rw [hs] at h; cases h
      | some r =>
        rw [hs] at h
        exact step_emb hs (run_emb.mp h)
    · intro h
      obtain ⟨r, h1, h2⟩ := emb_step h
      unfold run
      rw [h1]
      exact run_emb.mpr h2
def tP (t : List Nat) : Pd := t.map fun c => [c]
/-- t is one of the texts of q -/
def In (q : Pd) (t : List Nat) : Prop := Emb (tP t) q
theorem In.up {p q : Pd} {t : List Nat} (h : In p t) (e : Emb p q) : In q t := Emb.trans h e
theorem tP_append (s t : List Nat) : tP (s ++ t) = tP s ++ tP t := List.map_append
/-- a right piece: a letter, or a star of letters -/
def Ok (x : Pc) : Prop := (∃ c, c ≠ 42 ∧ x = [c]) ∨ ∃ l : List Nat, l ≠ [] ∧ l.Pairwise (· < ·) ∧ 42 ∉ l ∧ x = l ++ [42]
theorem isS_star (l : List Nat) : isS (l ++ [42]) = true := by unfold isS; simp
theorem isS_one {c : Nat} (h : c ≠ 42) : isS [c] = false := by unfold isS; simpa using h
theorem lt_star (l : List Nat) : lt (l ++ [42]) = l := by unfold lt; rw [isS_star, if_pos rfl]; simp
theorem lt_one {c : Nat} (h : c ≠ 42) : lt [c] = [c] := by unfold lt; rw [isS_one h, if_neg (by decide)]
theorem Ok.ne {x : Pc} (h : Ok x) : lt x ≠ [] := by
  rcases h with ⟨c, hc, rfl⟩ | ⟨l, h1, _, _, rfl⟩
  · rw [lt_one hc]; simp
  · rw [lt_star]; exact h1
theorem Ok.no {x : Pc} (h : Ok x) : ∀ c ∈ lt x, c ≠ 42 := by
  rcases h with ⟨c, hc, rfl⟩ | ⟨l, _, _, h2, rfl⟩
  · rw [lt_one hc]; intro d hd; rw [List.mem_singleton.mp hd]; exact hc
  · rw [lt_star]; intro d hd e; exact h2 (e ▸ hd)
theorem Ok.one {x : Pc} (h : Ok x) (hs : isS x = false) : ∃ c, c ≠ 42 ∧ x = [c] := by
  rcases h with h | ⟨l, _, _, _, rfl⟩
  · exact h
  · rw [isS_star] at hs; cases hs
/-- a piece beside a star that has all its letters -/
def idle (a b : Pc) : Prop := (isS a = true ∧ holds a b = true) ∨ (isS b = true ∧ holds b a = true)
def Red : Pd → Prop
  | [] => True
  | [_] => True
  | a :: b :: r => ¬ idle a b ∧ Red (b :: r)
theorem Red.tail {a : Pc} {r : Pd} (h : Red (a :: r)) : Red r := by
  cases r with
  | nil => trivial
  | cons b r => exact h.2
theorem red_no : ∀ {q : Pd} {y : Pc}, Red (y :: q) → ¬ Emb (y :: q) q
  | [], y, _, h => by cases h
  | z :: r, y, h, e => by
    cases e with
    | skip _ e => exact red_no h.2 e.tail
    | star hz hy _ => exact h.1 (.inr ⟨hz, hy⟩)
    | one _ e => exact red_no h.2 e
theorem star_eq {x y : Pc} (ox : Ok x) (oy : Ok y) (hx : isS x = true) (hy : isS y = true) (h1 : holds x y = true) (h2 : holds y x = true) : x = y := by
  rcases ox with ⟨c, hc, rfl⟩ | ⟨l, a1, a2, a3, rfl⟩
  · rw [isS_one hc] at hx; cases hx
  · rcases oy with ⟨c, hc, rfl⟩ | ⟨m, b1, b2, b3, rfl⟩
    · rw [isS_one hc] at hy; cases hy
    · rw [holds_star hx, lt_star, lt_star] at h1
      rw [holds_star hy, lt_star, lt_star] at h2
      have p : l.Perm m := (List.perm_ext_iff_of_nodup (a2.imp fun h => Nat.ne_of_lt h) (b2.imp fun h => Nat.ne_of_lt h)).mpr fun x => ⟨h2 x, h1 x⟩
      rw [p.eq_of_pairwise (fun a b _ _ h3 h4 => absurd (Nat.lt_trans h3 h4) (Nat.lt_irrefl _)) a2 b2]
/-- reduced products with the same texts are one -/
theorem red_uniq : ∀ {p q : Pd}, (∀ x ∈ p, Ok x) → (∀ x ∈ q, Ok x) → Red p → Red q → Emb p q → Emb q p → p = q
  | [], q, _, _, _, _, _, h => (emb_nil h).symm
  | x :: p, [], _, _, _, _, h, _ => by cases h
  | x :: p, y :: q, op, oq, rp, rq, h1, h2 => by
    have heads : (isS x = false ∧ x = y ∧ Emb p q) ∨ (isS y = true ∧ holds y x = true ∧ Emb p (y :: q)) := by
      cases h1 with
      | skip _ h1 => exact absurd (h2.trans h1) (red_no rq)
      | star a b c => exact .inr ⟨a, b, c⟩
      | one a b => exact .inl ⟨a, rfl, b⟩
    have heads2 : (isS y = false ∧ y = x ∧ Emb q p) ∨ (isS x = true ∧ holds x y = true ∧ Emb q (x :: p)) := by
      cases h2 with
      | skip _ h2 => exact absurd (h1.trans h2) (red_no rp)
      | star a b c => exact .inr ⟨a, b, c⟩
      | one a b => exact .inl ⟨a, rfl, b⟩
    have op' := fun z hz => op z (List.mem_cons_of_mem _ hz)
    have oq' := fun z hz => oq z (List.mem_cons_of_mem _ hz)
    rcases heads with ⟨a1, e, a2⟩ | ⟨a1, a2, a3⟩
    · subst e
      rcases heads2 with ⟨_, _, b2⟩ | ⟨b1, _, _⟩
      · rw [red_uniq op' oq' rp.tail rq.tail a2 b2]
      · rw [a1] at b1; cases b1
    · rcases heads2 with ⟨b1, e, _⟩ | ⟨b1, b2, b3⟩
      · rw [a1] at b1; cases b1
      · have e := star_eq (op x List.mem_cons_self) (oq y List.mem_cons_self) b1 a1 b2 a2
        subst e
        have low : ∀ {u v : Pd}, Red (x :: u) → Emb u (x :: v) → Emb u v := fun {u v} r e => by
          cases e with
          | nil => exact .nil _
          | skip _ e => exact e
          | star hs hh _ => exact absurd (.inl ⟨hs, hh⟩) r.1
          | one hx _ => rw [a1] at hx; cases hx
        rw [red_uniq op' oq' rp.tail rq.tail (low rp a3) (low rq b3)]
theorem Emb.cons {p q : Pd} (x : Pc) (h : Emb p q) : Emb (x :: p) (x :: q) := by
  cases hx : isS x with
  | true => exact .star hx (holds_self x) (.skip x h)
  | false => exact .one hx h
theorem Emb.pre {p q : Pd} (a : Pd) (h : Emb p q) : Emb (a ++ p) (a ++ q) := by
  induction a with
  | nil => exact h
  | cons x a ih => exact ih.cons x
theorem Emb.post {p q : Pd} (h : Emb p q) (b : Pd) : Emb (p ++ b) (q ++ b) := by
  induction h with
  | nil q => exact (Emb.refl b).app q
  | skip y _ ih => exact .skip y ih
  | star h1 h2 _ ih => exact .star h1 h2 ih
  | one h1 _ ih => exact .one h1 ih
/-- the same texts -/
def Eqv (p q : Pd) : Prop := Emb p q ∧ Emb q p
theorem Eqv.refl (p : Pd) : Eqv p p := ⟨.refl p, .refl p⟩
theorem Eqv.symm {p q : Pd} (h : Eqv p q) : Eqv q p := ⟨h.2, h.1⟩
theorem Eqv.trans {p q r : Pd} (h : Eqv p q) (g : Eqv q r) : Eqv p r := ⟨h.1.trans g.1, g.2.trans h.2⟩
theorem Eqv.ctx {p q : Pd} (a b : Pd) (h : Eqv p q) : Eqv (a ++ p ++ b) (a ++ q ++ b) := ⟨(h.1.pre a).post b, (h.2.pre a).post b⟩
/-- a piece ahead of a star that holds it -/
theorem eqv_l {x y : Pc} (hy : isS y = true) (h : holds y x = true) : Eqv [x, y] [y] := ⟨.star hy h (.refl _), .skip x (.refl _)⟩
/-- a piece behind a star that holds it -/
theorem eqv_r {x y : Pc} (hx : isS x = true) (h : holds x y = true) : Eqv [x, y] [x] := ⟨.star hx (holds_self x) (.star hx h (.nil _)), .star hx (holds_self x) (.nil _)⟩
theorem eqv_in {p q : Pd} (h : Eqv p q) (t : List Nat) : In p t ↔ In q t := ⟨fun z => z.up h.1, fun z => z.up h.2⟩
def pops (x : Pc) : Pd → Pd
  | [] => []
  | y :: f => if isS x && holds x y then pops x f else y :: f
def push (f : Pd) (x : Pc) : Pd := match pops x f with
  | [] => [x]
  | y :: g => if isS y && holds y x then y :: g else x :: y :: g
def redOf (p : Pd) : Pd := (p.foldl push []).reverse
theorem pops_suffix (x : Pc) : ∀ f : Pd, ∃ a, f = a ++ pops x f ∧ (a ≠ [] → isS x = true) ∧ ∀ y ∈ a, holds x y = true
  | [] => ⟨[], rfl, fun h => absurd rfl h, fun y h => by cases h⟩
  | y :: f => by
    unfold pops
    split
    · rename_i h
      obtain ⟨a, e, h1, h2⟩ := pops_suffix x f
      rw [Bool.and_eq_true] at h
      exact ⟨y :: a, by rw [List.cons_append, ← e], fun _ => h.1, fun z hz => (List.mem_cons.mp hz).elim (fun w => w ▸ h.2) (h2 z)⟩
    · exact ⟨[], rfl, fun h => absurd rfl h, fun y h => by cases h⟩
theorem pops_head {x : Pc} : ∀ {f : Pd} {y : Pc} {g : Pd}, pops x f = y :: g → ¬ (isS x = true ∧ holds x y = true)
  | [], _, _, h => by cases h
  | z :: f, y, g, h => by
    unfold pops at h
    split at h
    · exact pops_head h
    · rename_i hn
      cases h
      rwa [Bool.and_eq_true] at hn
theorem idle_symm {a b : Pc} (h : idle a b) : idle b a := h.elim .inr .inl
theorem red_iff : ∀ {l : Pd}, Red l ↔ ∀ u a b v, l = u ++ a :: b :: v → ¬ idle a b
  | [] => ⟨fun _ u a b v e => by simp at e, fun _ => trivial⟩
  | [x] => ⟨fun _ u a b v e => by
      have := congrArg List.length e
      simp at this
      omega, fun _ => trivial⟩
  | x :: y :: r => by
    constructor
    · intro h u a b v e
      cases u with
      | nil => cases e; exact h.1
      | cons z u =>
        rw [List.cons_append] at e
        injection e with _ e
        exact red_iff.mp h.2 u a b v e
    · intro h
      exact ⟨h [] x y r rfl, red_iff.mpr fun u a b v e => h (x :: u) a b v (by rw [e]; rfl)⟩
theorem red_rev {l : Pd} (h : Red l) : Red l.reverse := red_iff.mpr fun u a b v e => fun z => by
  have e2 : l = v.reverse ++ b :: a :: u.reverse := by
    have := congrArg List.reverse e
    rw [List.reverse_reverse] at this
    rw [this]
    simp
  exact red_iff.mp h _ b a _ e2 (idle_symm z)
theorem red_suffix {a b : Pd} (h : Red (a ++ b)) : Red b := red_iff.mpr fun u x y v e => red_iff.mp h (a ++ u) x y v (by rw [e, List.append_assoc])
theorem push_red {f : Pd} {x : Pc} (h : Red f) : Red (push f x) := by
  obtain ⟨a, e, _, _⟩ := pops_suffix x f
  have hs : Red (pops x f) := red_suffix (a := a) (by rw [← e]; exact h)
  unfold push
  split
  · trivial
  · rename_i y g hg
    rw [hg] at hs
    split
    · exact hs
    · rename_i hn
      rw [Bool.and_eq_true] at hn
      exact ⟨fun z => z.elim (pops_head hg) hn, hs⟩
theorem absorb {x : Pc} (hx : isS x = true) : ∀ {a : Pd}, (∀ y ∈ a, holds x y = true) → Eqv (a ++ [x]) [x]
  | [], _ => .refl _
  | y :: a, h => by
    have ih := (absorb hx (a := a) fun z hz => h z (List.mem_cons_of_mem _ hz)).ctx [y] []
    simp only [List.append_nil] at ih
    exact ih.trans (eqv_l hx (h y List.mem_cons_self))
theorem push_eqv (f : Pd) (x : Pc) : Eqv (f.reverse ++ [x]) (push f x).reverse := by
  obtain ⟨a, e, h1, h2⟩ := pops_suffix x f
  have base : Eqv (f.reverse ++ [x]) ((pops x f).reverse ++ [x]) := by
    by_cases ha : a = []
    · subst ha
      rw [List.nil_append] at e
      rw [← e]
      exact .refl _
    · have z := (absorb (h1 ha) (a := a.reverse) fun y hy => h2 y (List.mem_reverse.mp hy)).ctx (pops x f).reverse []
      conv => lhs; rw [e]
      rw [List.reverse_append]
      simpa using z
  refine base.trans ?_
  unfold push
  split
  · rename_i hg; rw [hg]; exact .refl _
  · rename_i y g hg
    rw [hg]
    split
    · rename_i hh
      rw [Bool.and_eq_true] at hh
      have z := (eqv_r hh.1 hh.2).ctx g.reverse []
      simpa using z
    · rw [List.reverse_cons (a := x)]
      exact .refl _
theorem fold_red : ∀ (p f : Pd), Red f → Red (p.foldl push f) ∧ Eqv (f.reverse ++ p) (p.foldl push f).reverse
  | [], f, h => ⟨h, by rw [List.append_nil]; exact .refl _⟩
  | x :: p, f, h => by
    obtain ⟨a, b⟩ := fold_red p (push f x) (push_red h)
    refine ⟨a, Eqv.trans ?_ b⟩
    have z := (push_eqv f x).ctx [] p
    simpa using z
theorem redOf_red (p : Pd) : Red (redOf p) := red_rev (fold_red p [] trivial).1
theorem redOf_eqv (p : Pd) : Eqv p (redOf p) := (fold_red p [] trivial).2
theorem pops_mem {x y : Pc} : ∀ {f : Pd}, y ∈ pops x f → y ∈ f
  | [], h => h
  | z :: f, h => by
    unfold pops at h
    split at h
    · exact List.mem_cons_of_mem _ (pops_mem h)
    · exact h
theorem push_mem {f : Pd} {x y : Pc} (h : y ∈ push f x) : y = x ∨ y ∈ f := by
  unfold push at h
  split at h
  · exact .inl (List.mem_singleton.mp h)
  · rename_i z g hg
    split at h
    · exact .inr (pops_mem (by rw [hg]; exact h))
    · rcases List.mem_cons.mp h with h | h
      · exact .inl h
      · exact .inr (pops_mem (by rw [hg]; exact h))
theorem fold_mem : ∀ {p f : Pd} {y : Pc}, y ∈ p.foldl push f → y ∈ p ∨ y ∈ f
  | [], f, y, h => .inr h
  | x :: p, f, y, h => by
    rcases fold_mem (p := p) (f := push f x) h with h | h
    · exact .inl (List.mem_cons_of_mem _ h)
    · rcases push_mem h with h | h
      · exact .inl (h ▸ List.mem_cons_self)
      · exact .inr h
theorem redOf_mem {p : Pd} {y : Pc} (h : y ∈ redOf p) : y ∈ p := (fold_mem (List.mem_reverse.mp h)).elim id fun z => by cases z
theorem pops_len (x : Pc) : ∀ f : Pd, (pops x f).length ≤ f.length
  | [] => Nat.le_refl _
  | y :: f => by
    unfold pops
    split
    · exact Nat.le_succ_of_le (pops_len x f)
    · exact Nat.le_refl _
theorem push_len (f : Pd) (x : Pc) : (push f x).length ≤ f.length + 1 := by
  have := pops_len x f
  unfold push
  split
  · simp
  · rename_i y g hg
    rw [hg] at this
    split
    · exact Nat.le_succ_of_le this
    · rw [List.length_cons]; omega
theorem fold_len : ∀ (p f : Pd), (p.foldl push f).length ≤ f.length + p.length
  | [], f => Nat.le_refl _
  | x :: p, f => by
    have h1 := fold_len p (push f x)
    have h2 := push_len f x
    rw [List.foldl_cons, List.length_cons]
    omega
theorem redOf_len (p : Pd) : (redOf p).length ≤ p.length := by
  unfold redOf
  rw [List.length_reverse]
  have := fold_len p []
  rw [List.length_nil] at this
  omega
/-- the reduced product is THE reduced one with the same texts -/
theorem redOf_uniq {p q : Pd} (hp : ∀ x ∈ p, Ok x) (hq : ∀ x ∈ q, Ok x) (hr : Red q) (h : Eqv p q) : redOf p = q := by
  have e := (redOf_eqv p).symm.trans h
  exact red_uniq (fun x hx => hp x (redOf_mem hx)) hq (redOf_red p) hr e.1 e.2
def Max (S : List Pd) (p : Pd) : Prop := p ∈ S ∧ ∀ q ∈ S, q ≠ p → ¬ Emb p q
structure Good (p : Pd) : Prop where
  ok : ∀ x ∈ p, Ok x
  red : Red p
theorem redOf_good {p : Pd} (h : ∀ x ∈ p, Ok x) : Good (redOf p) := ⟨fun x hx => h x (redOf_mem hx), redOf_red p⟩
theorem good_uniq {p q : Pd} (hp : Good p) (hq : Good q) (h1 : Emb p q) (h2 : Emb q p) : p = q := red_uniq hp.ok hq.ok hp.red hq.red h1 h2
/-- each lies within one that is kept -/
theorem under_max {S : List Pd} (hS : ∀ p ∈ S, Good p) : ∀ (n : Nat) (L : List Pd), L.length ≤ n → ∀ p ∈ S, (∀ q ∈ S, Emb p q → q ≠ p → q ∈ L) → ∃ k, Max S k ∧ Emb p k
  | n, L, hL, p, hp, h => by
    by_cases m : ∀ q ∈ S, q ≠ p → ¬ Emb p q
    · exact ⟨p, ⟨hp, m⟩, .refl p⟩
    · obtain ⟨q, hq⟩ := Classical.not_forall.mp m
      obtain ⟨hqS, hq2⟩ := Classical.not_imp.mp hq
      obtain ⟨hne, hq3⟩ := Classical.not_imp.mp hq2
      have e : Emb p q := Classical.not_not.mp hq3
      have hqL := h q hqS e hne
      clear hq m
      cases n with
      | zero => cases L with
        | nil => cases hqL
        | cons x L => simp at hL
      | succ n =>
        have hl : (L.erase q).length ≤ n := by rw [List.length_erase_of_mem hqL]; omega
        obtain ⟨k, k1, k2⟩ := under_max hS n (L.erase q) hl q hqS fun r hr er hrq => by
          have hrp : r ≠ p := fun z => by
            subst z
            exact hne (good_uniq (hS q hqS) (hS _ hr) er e)
          exact (List.mem_erase_of_ne hrq).mpr (h r hr (e.trans er) hrp)
        exact ⟨k, k1, e.trans k2⟩
theorem max_sub {S : List Pd} (hS : ∀ p ∈ S, Good p) {p : Pd} (hp : p ∈ S) : ∃ k, Max S k ∧ Emb p k := under_max hS S.length S (Nat.le_refl _) p hp fun q hq _ _ => hq
end M23
namespace Lw
open PySem PySem.Spec PyProof.Rows L3
open L2 hiding del del_same del_ne
/-- letters -/
structure Lets (sg : List Nat) : Prop where
  ne : 0 < sg.length
  few : sg.length ≤ 3
  up : sg.Pairwise (· < ·)
  az : ∀ c ∈ sg, 97 ≤ c ∧ c ≤ 122
theorem small_codes : (("abcdefghijklmnopqrstuvwxyz" : Str)).cps.toList = (List.range 26).map (· + 97) := by decide +kernel
theorem small_mem {c : Nat} (h : 97 ≤ c ∧ c ≤ 122) : c ∈ (("abcdefghijklmnopqrstuvwxyz" : Str)).cps.toList := by
  rw [small_codes]
  exact List.mem_map.mpr ⟨c - 97, List.mem_range.mpr (by omega), by omega⟩
theorem sz {n : Nat} (h : n ≤ 100000) : n ≤ sizeLine := by rw [sizeLine_eq]; omega
theorem ite_f {b : Bool} {p q : Prop} (e : b = false) (h : q) : if b = true then p else q := by rw [e]; exact h
theorem ite_t {b : Bool} {p q : Prop} (e : b = true) (h : p) : if b = true then p else q := by rw [e]; exact h
theorem u64 {k : Nat} {A : Around} (hr : Room k A) : A.units + 64 < cLine := by have := hr.units; omega
/-- rows: a list or a tuple of lists or tuples of numbers -/
def Rw (K : PySem.W.Frag) (H : Hp) (v : V) (R : List (List Nat)) : Prop := ∃ xs, Sq K H v xs ∧ xs.length = R.length ∧ ∀ (i : Nat) (x : V) (r : List Nat), xs[i]? = some x → R[i]? = some r → Sq K H x (nV r)
theorem Rw.same {K : PySem.W.Frag} {H H' : Hp} {v : V} {R : List (List Nat)} (h : Rw K H v R) (s : Same H H') : Rw K H' v R := by
  obtain ⟨xs, a, b, c⟩ := h
  exact ⟨xs, a.same s, b, fun i x r h1 h2 => (c i x r h1 h2).same s⟩
theorem ty_list {K : PySem.W.Frag} {H : Hp} {a : Addr} {xs : List V} (h : SqL K H a xs) : TyX K H (.ref a) (.type "list") := by
  rcases h with (h | ⟨o, h⟩) | ⟨o, its, n, hk, hc, _⟩
  · exact .base (.lst h)
  · exact .base (.frz h)
  · exact .kList hk hc
theorem ty_tuple {K : PySem.W.Frag} {H : Hp} {a : Addr} {xs : List V} (h : SqT K H a xs) : TyX K H (.ref a) (.type "tuple") := by
  rcases h with (h | ⟨o, h⟩) | ⟨o, its, n, hk, hc, _⟩
  · exact .base (.tup h)
  · exact .fTuple h
  · exact .kTuple hk hc
section
variable {P : Program} {w : World} {K : PySem.W.Frag} {mg : Str → Option Value} {base : Heap}
def spIsList (K : PySem.W.Frag) : Sp := fun vs H Q _ => ∃ v xs, vs = [v] ∧ Sq K H v xs ∧ ∀ H', Same H H' → Q (.bl true) H'
theorem ok_is_list (T : All K mg) : FnOk P w K mg base CX0 1 T.f_is_list T.d_is_list ["value"] (spIsList K) := by
  refine T.is_list.F.ok sc_is_list (fun vs H Q E h => ?_) (fun cdv A outer s H vs Q E hr h => ?_)
  · obtain ⟨n, xs, rfl, _⟩ := h
    rfl
  · obtain ⟨v, xs, rfl, hs, q⟩ := h
    refine ⟨_, pss_one (ps_ret (pe_callB call_isiT (by rfl) T.b_isinstance boot_isinstance (pa_cons (pv 0) (pa_cons (pe_tup (pa_cons (pe_bltn (v := .ty "list") (by rfl) T.b_list (by decide +kernel) rfl) (pa_cons (pe_bltn (v := .ty "tuple") (by rfl) T.b_tuple (by decide +kernel) rfl) pa_nil))) pa_nil)))), ?_⟩
    refine ⟨_, rfl, by show 2 ≤ sizeLine; decide, fun t nt => ?_⟩
    obtain ⟨a, rfl, hS⟩ := hs.same (same_upd (o := .tup [.ty "list", .ty "tuple"]) nt)
    rcases hS with h | h
    · exact ⟨_, t, [.ty "list", .ty "tuple"], .type "list", [.type "list", .type "tuple"], true, rfl, upd_same, .cons (.ty _) (.cons (.ty _) .nil), ty_list h, kitAny_cons (b := true) (kit_ty (by decide +kernel)) (fun z => by cases z) (fun _ => rfl), q _ (same_upd nt)⟩
    · exact ⟨_, t, [.ty "list", .ty "tuple"], .type "tuple", [.type "list", .type "tuple"], true, rfl, upd_same, .cons (.ty _) (.cons (.ty _) .nil), ty_tuple h, kitAny_cons (b := false) (kit_ty (by decide +kernel)) (fun _ => kitAny_cons (b := true) (kit_ty (by decide +kernel)) (fun z => by cases z) (fun _ => rfl)) (fun z => by cases z), q _ (same_upd nt)⟩
def spIsText : Sp := fun vs H Q _ => ∃ l, vs = [tx l] ∧ (∀ c ∈ l, 97 ≤ c ∧ c ≤ 122) ∧ l.length ≤ 1000 ∧ ∀ H', Same H H' → Q (.bl true) H'
theorem ok_is_text (T : All K mg) : FnOk P w K mg base CX0 1 T.f_is_text T.d_is_text ["value"] spIsText := by
  refine T.is_text.F.ok sc_is_text (fun vs H Q E h => ?_) (fun cdv A outer s H vs Q E hr h => ?_)
  · obtain ⟨l, rfl, _⟩ := h
    rfl
  · obtain ⟨l, rfl, hl, hz, q⟩ := h
    obtain ⟨ts, hSMALL_basics⟩ := T.c_SMALL_basics
    refine ⟨_, pss_one (ps_ret (pe_and (pe_callB call_isi (by rfl) T.b_isinstance boot_isinstance (pa_cons (pv 0) (pa_cons (pe_bltn (v := .ty "str") (by rfl) T.b_str (by decide +kernel) rfl) pa_nil)))
        (pe_one (pe_callB (cr_all rfl) (by rfl) T.b_all PyProof.Rows.boot_all (pa_cons (pe_lc (own := [("sign", 1)]) (g := gName 1) (tt := tYes) rfl sc_is_text.nd (pi_str (pv 0))
          (blkOk_by (own := [("sign", 1)]) (N := ["value", "sign"]) (sc := defScope s_is_text) (by decide +kernel))
          (fun _ _ _ _ _ => pg_name (i := 1) sc_is_text.nd rfl (by first | exact Or.inl rfl | exact Or.inr rfl)) (fun _ _ _ _ _ => pts_nil)
          (fun _ _ _ _ _ => (pe_cmpR op_in_sign (pv 1) (pe_glob (v := .str "abcdefghijklmnopqrstuvwxyz") rfl hSMALL_basics ⟨_, rfl⟩) (by rfl)))) pa_nil))))), ?_⟩
    refine ⟨tx l, rfl, tx l, .ty "str", .type "str", .type "str", true, rfl, .ty _, .base (.str _), kit_ty (by decide +kernel), true, rfl, iteT ?_⟩
    refine ⟨tx l, rfl, tS l, rfl, fun D nD => ?_⟩
    refine lc_gen walk_tx (Same H) (fun i acc => acc = List.replicate i (.bl true)) (sz (by omega)) (fun i acc e => by rw [e]; simp) rfl (same_upd nD) (fun _ _ h => same_up h nD) (fun _ _ => trivial) (fun i x H2 H3 acc C N hi r hD ha y c n => ?_) (fun H2 xs r hD ha => ?_)
    · obtain ⟨rfl, ch, hc, rfl⟩ := y
      refine ⟨rfl, yes_te ?_⟩
      refine ⟨_, rfl, ch, _, rfl, rfl, ?_⟩
      rw [decide_eq_true (small_mem (hl ch (List.mem_of_getElem? hc)))]
      exact c _ _ r hD (by rw [ha, List.replicate_succ'])
    · refine ⟨D, List.replicate l.length true, rfl, .inl (.inl ?_), ?_⟩
      · rw [hD, ha]
        simp
      · have e : (List.replicate l.length true).all id = true := by simp
        rw [e]
        exact q _ r
theorem sort_lets {sg : List Nat} (up : sg.Pairwise (· < ·)) {L : List (List Nat)} (hp : L.Perm (lets sg)) (hs : L.Pairwise (· < ·)) : L = sg.map fun c => [c] := by
  have h2 : (sg.map fun c => [c]).Pairwise (· < ·) := by
    rw [List.pairwise_map]
    refine up.imp fun h => ?_
    exact List.cons_lt_cons_iff.mpr (.inl h)
  have hn1 : L.Nodup := hs.imp fun h e => by subst e; exact absurd h (List.lt_irrefl _)
  have hn2 : (sg.map fun c => [c]).Nodup := h2.imp fun h e => by subst e; exact absurd h (List.lt_irrefl _)
  have hp2 : L.Perm (sg.map fun c => [c]) := by
    refine (List.perm_ext_iff_of_nodup hn1 hn2).mpr fun x => ?_
    rw [hp.mem_iff, lets_mem, List.mem_map]
    exact ⟨fun ⟨c, h1, h2⟩ => ⟨c, h1, h2.symm⟩, fun ⟨c, h1, h2⟩ => ⟨c, h1, h2.symm⟩⟩
  exact hp2.eq_of_pairwise (fun a b _ _ h1 h2 => absurd (List.lt_trans h1 h2) (List.lt_irrefl _)) hs h2
def spAreLetters : Sp := fun vs H Q _ => ∃ sg, vs = [tx sg] ∧ Lets sg ∧ ∀ H', Same H H' → Q (.bl true) H'
theorem ok_are_letters (T : All K mg) : FnOk P w K mg base CX0 2 T.f_are_letters T.d_are_letters ["value"] spAreLetters := by
  refine T.are_letters.F.ok sc_are_letters (fun vs H Q E h => ?_) (fun cdv A outer s H vs Q E hr h => ?_)
  · obtain ⟨l, rfl, _⟩ := h
    rfl
  · obtain ⟨sg, rfl, hl, q⟩ := h
    obtain ⟨ts, hMOST_LETTERS⟩ := T.c_MOST_LETTERS
    have hz : sg.length ≤ sizeLine := sz (by have := hl.few; omega)
    refine ⟨_, pss_cons (ps_if (PW.pt (pw_or (pt_not (pt_val (pe_call (ok_is_text T) (hr.mono (by decide)) (by rfl) T.is_text.g T.is_text.F.kp T.is_text.b .nil pass0 (pa_cons (pv 0) pa_nil)))) (pw_or1 (pt_not (pt_chain op_le op_le pe_int (pe_callB call_lenT (by rfl) T.b_len PySem.boot_len (pa_cons (pv 0) pa_nil)) (pe_glob (v := .int 3) rfl hMOST_LETTERS ⟨_, rfl⟩)))))) (pss_one ps_never) pss_nil)
      (pss_one (ps_ret (pe_cmpR (op_eqD (u64 hr)) (pe_callTy (call_listT rfl) (by rfl) T.b_list PyProof.Rows.boot_list (pa_cons (pv 0) pa_nil)) (pe_callB (cr_sortSetT rfl) (by rfl) T.b_sorted PyProof.Rows.boot_sorted (pa_cons (pe_callTy (cr_setT rfl) (by rfl) T.b_set (show bootBuiltins "set" = some (.type "set") by decide +kernel) (pa_cons (pv 0) pa_nil)) pa_nil)) (by rfl)))), ?_⟩
    refine ⟨_, rfl, sg, rfl, hl.az, by have := hl.few; omega, fun H1 s1 => ?_⟩
    refine ⟨true, rfl, iteF ?_⟩
    have e1 : decide ((1 : Int) ≤ (sg.length : Int)) = true := decide_eq_true (by have := hl.ne; omega)
    have e2 : decide ((sg.length : Int) ≤ 3) = true := decide_eq_true (by have := hl.few; omega)
    refine ⟨_, rfl, sg, rfl, hz, _, _, rfl, rfl, _, rfl, ?_⟩
    rw [e1]
    refine iteT ⟨_, _, rfl, rfl, true, congrArg V.bl e2, iteF ?_⟩
    refine ⟨_, rfl, sg, rfl, hz, fun p np => ?_⟩
    refine ⟨_, rfl, sg, rfl, by have := hl.few; omega, fun p2 np2 => ?_⟩
    refine ⟨p2, _, rfl, upd_same, fun L p3 hp hs np3 => ?_⟩
    have eL := sort_lets hl.up hp hs
    subst eL
    have s2 := same_up (o := .lst (sg.map fun c => tx [c])) s1 (s1.free np)
    have n1 : p ≠ p2 := fun e => by subst e; rw [upd_same] at np2; cases np2
    have n2 : p ≠ p3 := fun e => by subst e; rw [upd_ne n1, upd_same] at np3; cases np3
    have w : ∀ d ∈ dTx (sg.map fun c => [c]), Wt d 1 0 := fun d hd => by
      unfold dTx at hd
      rw [List.map_map] at hd
      obtain ⟨c, hc, rfl⟩ := List.mem_map.mp hd
      refine Wt.text (fun x hx => ?_) (by simp)
      rw [List.mem_singleton.mp hx]
      have := hl.az c hc
      omega
    have sh := (Wt.list w (Nat.le_refl _)).shaped (by decide)
    refine ⟨.list (dTx (sg.map fun c => [c])), .list (dTx (sg.map fun c => [c])), .lst (xs := (sg.map fun c => [c]).map tx) (.inl (.inl ?_)) (dp_txs _), .lst (xs := (sg.map fun c => [c]).map tx) (.inl (.inl upd_same)) (dp_txs _), sh, sh, ?_⟩
    · rw [upd_ne n2, upd_ne n1, upd_same, List.map_map]
      rfl
    · have e : PyData.eqv (.list (dTx (sg.map fun c => [c]))) (.list (dTx (sg.map fun c => [c]))) = true := by
        show PyData.eqvAll _ _ = true
        unfold dTx
        rw [eqv_map (α := List Nat) _ (fun a b => ?_) _ _]
        · exact decide_eq_true rfl
        · show (tS a == tS b) = _
          by_cases h : a = b
          · subst h; simp
          · rw [decide_eq_false h]; exact beq_eq_false_iff_ne.mpr fun z => h (tS_inj z)
      rw [e]
      refine q _ (same_up (same_up s2 ?_) ?_)
      · exact s2.free np2
      · exact (same_up s2 (s2.free np2)).free np3
def spWantFew : Sp := fun vs H Q _ => ∃ (x : V) (m n : Int), vs = [x, .int m, .int n] ∧ m ≤ n ∧ Q .non H
theorem ok_want_few (T : All K mg) : FnOk P w K mg base CX0 1 T.f_want_few T.d_want_few ["what", "many", "limit"] spWantFew := by
  refine T.want_few.F.ok sc_want_few (fun vs H Q E h => ?_) (fun cdv A outer s H vs Q E hr h => ?_)
  · obtain ⟨x, m, n, rfl, _⟩ := h
    rfl
  · obtain ⟨x, m, n, rfl, hmn, q⟩ := h
    refine ⟨_, pss_one (ps_if (pt_cmpR op_gt (pv 1) (pv 2) (nomark _)) (pss_one ps_never) pss_nil), ?_⟩
    refine ⟨_, rfl, _, rfl, m, n, rfl, rfl, _, rfl, ite2 (fun e => ?_) (fun e => q)⟩
    have := of_decide_eq_true e
    show False
    omega
def spTextOver (K : PySem.W.Frag) : Sp := fun vs H Q _ => ∃ sg v, vs = [tx sg, v] ∧ ((∃ t, v = tx t ∧ t.length ≤ 2000 ∧ ∀ H', Same H H' → Q (.bl (t.all fun c => decide (c ∈ sg))) H') ∨ (∃ ty, TyX K H v ty ∧ PySem.W.kitOne K ty (.type "str") = some false ∧ Q (.bl false) H))
theorem ok_is_text_over (T : All K mg) : FnOk P w K mg base CX0 1 T.f_is_text_over T.d_is_text_over ["letters", "value"] (spTextOver K) := by
  refine T.is_text_over.F.ok sc_is_text_over (fun vs H Q E h => ?_) (fun cdv A outer s H vs Q E hr h => ?_)
  · obtain ⟨l, v, rfl, _⟩ := h
    rfl
  · obtain ⟨sg, v, rfl, h⟩ := h
    refine ⟨_, pss_one (ps_ret (pe_and (pe_callB call_isi (by rfl) T.b_isinstance boot_isinstance (pa_cons (pv 1) (pa_cons (pe_bltn (v := .ty "str") (by rfl) T.b_str (by decide +kernel) rfl) pa_nil)))
        (pe_one (pe_callB (cr_all rfl) (by rfl) T.b_all PyProof.Rows.boot_all (pa_cons (pe_lc (own := [("sign", 2)]) (g := gName 2) (tt := tYes) rfl sc_is_text_over.nd (pi_str (pv 1))
          (blkOk_by (own := [("sign", 2)]) (N := ["letters", "value", "sign"]) (sc := defScope s_is_text_over) (by decide +kernel))
          (fun _ _ _ _ _ => pg_name (i := 2) sc_is_text_over.nd rfl (by first | exact Or.inl rfl | exact Or.inr rfl)) (fun _ _ _ _ _ => pts_nil)
          (fun _ _ _ _ _ => (pe_cmpR op_in_sign (pv 2) (pv 0) (by rfl)))) pa_nil))))), ?_⟩
    rcases h with ⟨t, rfl, hz, q⟩ | ⟨ty, hty, hk, q⟩
    · refine ⟨tx t, rfl, tx t, .ty "str", .type "str", .type "str", true, rfl, .ty _, .base (.str _), kit_ty (by decide +kernel), true, rfl, iteT ?_⟩
      refine ⟨tx t, rfl, tS t, rfl, fun D nD => ?_⟩
      refine lc_gen walk_tx (Same H) (fun i acc => acc = ((t.take i).map fun c => decide (c ∈ sg)).map V.bl) (sz (by omega)) (fun i acc e => by rw [e]; simp; omega) rfl (same_upd nD) (fun _ _ h => same_up h nD) (fun _ _ => trivial) (fun i x H2 H3 acc C N hi r hD ha y c n => ?_) (fun H2 xs r hD ha => ?_)
      · obtain ⟨rfl, ch, hc, rfl⟩ := y
        refine ⟨rfl, yes_te ?_⟩
        refine ⟨_, rfl, _, rfl, ch, tS sg, rfl, rfl, ?_⟩
        refine c _ _ r hD ?_
        rw [ha, List.take_add_one, hc]
        simp [tS]
      · subst ha
        rw [List.take_length] at hD
        refine ⟨D, t.map fun c => decide (c ∈ sg), rfl, .inl (.inl hD), ?_⟩
        have e : (t.map fun c => decide (c ∈ sg)).all id = t.all fun c => decide (c ∈ sg) := by rw [List.all_map]; rfl
        rw [e]
        exact q _ r
    · refine ⟨v, rfl, v, .ty "str", ty, .type "str", false, rfl, .ty _, hty, hk, false, rfl, iteF q⟩
def spIsInteger : Sp := fun vs H Q _ => ∃ n, vs = [.int n] ∧ Q (.bl true) H
theorem ok_is_integer (T : All K mg) : FnOk P w K mg base CX0 1 T.f_is_integer T.d_is_integer ["value"] spIsInteger := by
  refine T.is_integer.F.ok sc_is_integer (fun vs H Q E h => ?_) (fun cdv A outer s H vs Q E hr h => ?_)
  · obtain ⟨n, rfl, _⟩ := h
    rfl
  · obtain ⟨n, rfl, q⟩ := h
    refine ⟨_, pss_one (ps_ret (pe_and (pe_callB call_isi (by rfl) T.b_isinstance boot_isinstance (pa_cons (pv 0) (pa_cons (pe_bltn (v := .ty "int") (by rfl) T.b_int (by decide +kernel) rfl) pa_nil)))
        (pe_one (pe_not (pe_callB call_isi (by rfl) T.b_isinstance boot_isinstance (pa_cons (pv 0) (pa_cons (pe_bltn (v := .ty "bool") (by rfl) T.b_bool (by decide +kernel) rfl) pa_nil))))))), ?_⟩
    refine ⟨_, rfl, _, .ty "int", .type "int", .type "int", true, rfl, .ty _, .base (.int _), kit_ty (by decide +kernel), true, rfl, iteT ?_⟩
    exact ⟨_, rfl, _, .ty "bool", .type "int", .type "bool", false, rfl, .ty _, .base (.int _), kit_ty (by decide +kernel), _, rfl, q⟩
def spIsRow (K : PySem.W.Frag) : Sp := fun vs H Q _ => ∃ (v : V) (r : List Nat) (m : Nat), vs = [v, .int (r.length : Int), .int (m : Int)] ∧ Sq K H v (nV r) ∧ (∀ g ∈ r, g < m) ∧ r.length ≤ 1000 ∧ ∀ H', Same H H' → Q (.bl true) H'
theorem ok_is_row (T : All K mg) : FnOk P w K mg base CX0 2 T.f_is_row T.d_is_row ["value", "size", "many"] (spIsRow K) := by
  refine T.is_row.F.ok sc_is_row (fun vs H Q E h => ?_) (fun cdv A outer s H vs Q E hr h => ?_)
  · obtain ⟨v, r, m, rfl, _⟩ := h
    rfl
  · obtain ⟨v, r, m, rfl, hS, hm, hz, q⟩ := h
    refine ⟨_, pss_cons (ps_if (PW.pt (pw_or (pt_not (pt_val (pe_call (ok_is_list T) (hr.mono (by decide)) (by rfl) T.is_list.g T.is_list.F.kp T.is_list.b .nil pass0 (pa_cons (pv 0) pa_nil)))) (pw_or1 (pt_cmpR op_ne (pe_callB call_len_seq (by rfl) T.b_len PySem.boot_len (pa_cons (pv 0) pa_nil)) (pv 1) (nomark _))))) (pss_one ps_never) pss_nil)
      (pss_one (ps_ret (pe_callB (cr_all rfl) (by rfl) T.b_all PyProof.Rows.boot_all (pa_cons (pe_lc (own := [("goal", 3)]) (g := gName 3) (tt := tYes) rfl sc_is_row.nd (pi_sq (pv 0))
          (blkOk_by (own := [("goal", 3)]) (N := ["value", "size", "many", "goal"]) (sc := defScope s_is_row) (by decide +kernel))
          (fun _ _ _ _ _ => pg_name (i := 3) sc_is_row.nd rfl (by first | exact Or.inl rfl | exact Or.inr rfl)) (fun _ _ _ _ _ => pts_nil)
          (fun _ _ _ _ _ => (pe_and (pe_call (ok_is_integer T) (hr.mono (by decide)) (by rfl) T.is_integer.g T.is_integer.F.kp T.is_integer.b .nil pass0 (pa_cons (pv 3) pa_nil))
        (pe_one (pe_chain op_le op_lt pe_int (pv 3) (pv 2)))))) pa_nil)))), ?_⟩
    refine ⟨_, rfl, v, _, rfl, hS, fun H1 s1 => ?_⟩
    have hS1 := hS.same s1
    obtain ⟨a, rfl, hS1'⟩ := id hS1
    refine ⟨true, rfl, iteF ?_⟩
    refine ⟨_, rfl, a, _, rfl, hS1', _, rfl, rfl, _, rfl, ?_⟩
    rw [nV_len]
    refine ite_f (by simp) ?_
    refine ⟨_, rfl, _, H1, hS1, Same.refl _, fun J G wk hG D nD => ?_⟩
    refine lc_gen wk (Same H1) (fun i acc => acc = List.replicate i (.bl true)) (by rw [nV_len]; exact sz (by omega)) (fun i acc e => by rw [e]; simp) rfl (same_upd nD) (fun _ _ h => same_up h nD) (fun _ h => hG _ h) (fun i x H2 H3 acc C N hi rs hD ha y c n => ?_) (fun H2 xs rs hD ha => ?_)
    · obtain ⟨rfl, y⟩ := y
      obtain ⟨g, hg, rfl⟩ := nV_inv y
      have hgm := hm g (List.mem_of_getElem? hg)
      refine ⟨rfl, yes_te ?_⟩
      refine ⟨_, rfl, _, rfl, true, rfl, iteT ?_⟩
      refine ⟨_, rfl, _, _, rfl, rfl, _, rfl, ite_t (decide_eq_true (by omega)) ?_⟩
      refine ⟨_, rfl, _, _, rfl, rfl, ?_⟩
      show C (V.bl (decide ((g : Int) < (m : Int)))) _
      rw [decide_eq_true (by omega)]
      exact c _ _ rs hD (by rw [ha, List.replicate_succ'])
    · refine ⟨D, List.replicate r.length true, rfl, .inl (.inl ?_), ?_⟩
      · rw [hD, ha, nV_len]
        simp
      · have e : (List.replicate r.length true).all id = true := by simp
        rw [e]
        exact q _ (s1.trans rs)
def spWantMachine (K : PySem.W.Frag) : Sp := fun vs H Q _ => ∃ (sg : List Nat) (a b : V) (R : List (List Nat)) (k : List Bool), vs = [tx sg, a, b] ∧ Lets sg ∧ Rw K H a R ∧ Sq K H b (k.map V.bl) ∧ M14.Sht sg.length R k ∧ ∀ H', Same H H' → Q .non H'
theorem ok_want_machine (T : All K mg) : FnOk P w K mg base CX0 3 T.f_want_machine T.d_want_machine ["letters", "rows", "kinds"] (spWantMachine K) := by
  refine T.want_machine.F.ok sc_want_machine (fun vs H Q E h => ?_) (fun cdv A outer s H vs Q E hr h => ?_)
  · obtain ⟨sg, a, b, R, k, rfl, _⟩ := h
    rfl
  · obtain ⟨sg, a, b, R, k, rfl, hl, hR, hk, hG, q⟩ := h
    have zsg : sg.length ≤ sizeLine := sz (by have := hl.few; omega)
    refine ⟨_, pss_cons (ps_if (pt_not (pt_val (pe_call (ok_are_letters T) (hr.mono (by decide)) (by rfl) T.are_letters.g T.are_letters.F.kp T.are_letters.b .nil pass0 (pa_cons (pv 0) pa_nil)))) (pss_one ps_never) pss_nil)
      (pss_cons (ps_if (PW.pt (pw_or (pt_not (pt_val (pe_call (ok_is_list T) (hr.mono (by decide)) (by rfl) T.is_list.g T.is_list.F.kp T.is_list.b .nil pass0 (pa_cons (pv 1) pa_nil)))) (pw_or1 (pt_cmpR op_eq (pe_callB call_len_seq (by rfl) T.b_len PySem.boot_len (pa_cons (pv 1) pa_nil)) pe_int (nomark _))))) (pss_one ps_never) pss_nil)
      (pss_cons (ps_for PassesOwn.never rfl (pi_enumS rfl T.b_enumerate (pa_cons (pv 1) pa_nil)) (pg_tup rfl (pgs_cons (pg_name (i := 3) sc_want_machine.nd rfl (by first | exact Or.inl rfl | exact Or.inr rfl)) (pgs_cons (pg_name (i := 4) sc_want_machine.nd rfl (by first | exact Or.inl rfl | exact Or.inr rfl)) pgs_nil)))
        (pss_one (ps_if (pt_not (pt_val (pe_call (ok_is_row T) (hr.mono (by decide)) (by rfl) T.is_row.g T.is_row.F.kp T.is_row.b .nil pass0 (pa_cons (pv 4) (pa_cons (pe_callB call_lenT (by rfl) T.b_len PySem.boot_len (pa_cons (pv 0) pa_nil)) (pa_cons (pe_callB call_len_seq (by rfl) T.b_len PySem.boot_len (pa_cons (pv 1) pa_nil)) pa_nil)))))) (pss_one ps_never) pss_nil)))
      (pss_cons (ps_if (PW.pt (pw_or (pt_not (pt_val (pe_call (ok_is_list T) (hr.mono (by decide)) (by rfl) T.is_list.g T.is_list.F.kp T.is_list.b .nil pass0 (pa_cons (pv 2) pa_nil)))) (pw_or1 (pt_cmpR op_ne (pe_callB call_len_seq (by rfl) T.b_len PySem.boot_len (pa_cons (pv 2) pa_nil)) (pe_callB call_len_seq (by rfl) T.b_len PySem.boot_len (pa_cons (pv 1) pa_nil)) (nomark _))))) (pss_one ps_never) pss_nil)
      (pss_cons (ps_for PassesOwn.never rfl (pi_enumS rfl T.b_enumerate (pa_cons (pv 2) pa_nil)) (pg_tup rfl (pgs_cons (pg_name (i := 3) sc_want_machine.nd rfl (by first | exact Or.inl rfl | exact Or.inr rfl)) (pgs_cons (pg_name (i := 5) sc_want_machine.nd rfl (by first | exact Or.inl rfl | exact Or.inr rfl)) pgs_nil)))
        (pss_one (ps_if (pt_not (pt_val (pe_callB call_isi (by rfl) T.b_isinstance boot_isinstance (pa_cons (pv 5) (pa_cons (pe_bltn (v := .ty "bool") (by rfl) T.b_bool (by decide +kernel) rfl) pa_nil))))) (pss_one ps_never) pss_nil)))
      (pss_one (ps_expr (pe_call (ok_want_few T) (hr.mono (by decide)) (by rfl) T.want_few.g T.want_few.F.kp T.want_few.b .nil pass0 (pa_cons pe_str (pa_cons (pe_callB call_len_seq (by rfl) T.b_len PySem.boot_len (pa_cons (pv 1) pa_nil)) (pa_cons (ClX.pe_cval (pe_glob (v := .ref T.C_Machine) rfl T.g_Machine rfl)) pa_nil)))))))))), ?_⟩
    refine ⟨_, rfl, sg, rfl, hl, fun H1 s1 => ⟨true, rfl, iteF ?_⟩⟩
    obtain ⟨xs, hS, hlen, hrow⟩ := id hR
    refine ⟨_, rfl, a, xs, rfl, hS.same s1, fun H2 s2 => ⟨true, rfl, iteF ?_⟩⟩
    have s12 := s1.trans s2
    obtain ⟨aa, rfl, hSS⟩ := hS.same s12
    refine ⟨_, rfl, aa, xs, rfl, hSS, rfl, _, rfl, ite_f (decide_eq_false fun z => ?_) ?_⟩
    · have := hG.ne
      have := V.int.inj z
      omega
    obtain ⟨y, ey, hy⟩ := sq_src hS
    refine ⟨_, rfl, y, xs, congrArg (fun z => [z]) ey, hy _ s12, for_it walk_enumS (fun i σ H' => ∃ p r, σ = [some (tx sg), some (.ref aa), some b, p, r, none] ∧ Same H H') ⟨none, none, rfl, s12⟩ (fun i σ H' _ p => by obtain ⟨_, _, _, sm⟩ := p; exact hy _ sm) (fun i x σ H3 H4 hi p y => ?_) (fun σ H3 p => ?_)⟩
    · obtain ⟨p0, r0, rfl, sm⟩ := p
      obtain ⟨Tp, x1, x2, rfl, nT, rfl, e1, e2⟩ := y
      cases e1
      obtain ⟨r, hr1⟩ : ∃ r, R[i]? = some r := ⟨R[i]'(by omega), List.getElem?_eq_getElem (by omega)⟩
      have hrm : r ∈ R := List.mem_of_getElem? hr1
      have hrl := hG.len r hrm
      have sm2 := same_up (o := .tup [.int (i : Nat), x2]) sm (sm.free nT)
      refine ⟨Tp, _, rfl, .inl (.inl upd_same), rfl, _, _, rfl, _, _, rfl, rfl, ?_⟩
      refine ⟨_, rfl, _, rfl, sg, rfl, zsg, _, rfl, aa, xs, rfl, (by obtain ⟨z, e, h⟩ := hS.same sm2; cases e; exact h), ?_⟩
      refine ⟨x2, r, R.length, by rw [hrl, hlen]; rfl, (hrow i x2 r e2 hr1).same sm2, fun g hg => ?_, by have := hl.few; omega, fun H5 s5 => ⟨true, rfl, iteF ⟨_, _, rfl, sm2.trans s5⟩⟩⟩
      have hi2 : i < R.length := by omega
      exact hG.val i hi2 g (by rw [M14.row_get hr1]; exact hg)
    · obtain ⟨p0, r0, rfl, s3⟩ := p
      have ek : (k.map V.bl).length = R.length := by rw [List.length_map]; exact hG.kin
      refine ⟨_, rfl, b, _, rfl, hk.same s3, fun H4 s4 => ⟨true, rfl, iteF ?_⟩⟩
      have s34 := s3.trans s4
      obtain ⟨bb, rfl, hkk⟩ := hk.same s34
      refine ⟨_, rfl, bb, _, rfl, hkk, _, rfl, aa, xs, rfl, (by obtain ⟨z, e, h⟩ := hS.same s34; cases e; exact h), rfl, _, rfl, ite_f ?_ ?_⟩
      · rw [ek, hlen]; simp
      obtain ⟨y2, ey2, hy2⟩ := sq_src hk
      refine ⟨_, rfl, y2, _, congrArg (fun z => [z]) ey2, hy2 _ s34, for_it walk_enumS (fun i σ H' => ∃ p r kk, σ = [some (tx sg), some (.ref aa), some (.ref bb), p, r, kk] ∧ Same H H') ⟨_, _, _, rfl, s34⟩ (fun i σ H' _ p => by obtain ⟨_, _, _, _, sm⟩ := p; exact hy2 _ sm) (fun i x σ H5 H6 hi p y => ?_) (fun σ H5 p => ?_)⟩
      · obtain ⟨p0, r0, k0, rfl, sm⟩ := p
        obtain ⟨Tp, x1, x2, rfl, nT, rfl, e1, e2⟩ := y
        cases e1
        have e2 : (k.map V.bl)[i]? = some x2 := e2
        rw [List.getElem?_map] at e2
        obtain ⟨kb, hkb, rfl⟩ := Option.map_eq_some_iff.mp e2
        have sm2 := same_up (o := .tup [.int (i : Nat), .bl kb]) sm (sm.free nT)
        refine ⟨Tp, _, rfl, .inl (.inl upd_same), rfl, _, _, rfl, _, _, rfl, rfl, ?_⟩
        refine ⟨_, rfl, _, .ty "bool", .type "bool", .type "bool", true, rfl, .ty _, .base (.bl _), kit_ty (by decide +kernel), true, rfl, iteF ⟨_, _, _, rfl, sm2⟩⟩
      · obtain ⟨p0, r0, k0, rfl, s5⟩ := p
        obtain ⟨tk, hcv⟩ := T.cv_Machine_MOST_PLACES
        refine ⟨_, rfl, aa, xs, rfl, (by obtain ⟨z, e, h⟩ := hS.same s5; cases e; exact h), T.C_Machine, .type "type", _, _, rfl, T.cr_Machine, hcv, ?_⟩
        refine ⟨_, _, _, rfl, ?_, q _ s5⟩
        have := hG.few
        omega
end
end Lw
namespace Lw
open PySem PySem.Spec PyProof.Rows L3
open L2 hiding del del_same del_ne
/-- a while that counts -/
theorem while_n {c : TT} {tb : TS} {D : Ends} {σ : L2.St} {H : Hp} (Pv : Nat → L2.St → Hp → Prop) (N : Nat) (h0 : Pv 0 σ H)
    (hs : ∀ n σ H, Pv n σ H → ∀ Kc : Bool → Hp → Prop, (∀ H1, n < N → tb { D with nx := Pv (n + 1), ct := Pv (n + 1), bk := D.nx } σ H1 → Kc true H1) → (∀ H1, D.nx σ H1 → Kc false H1) → c σ H Kc) : tWhile c tb D σ H := by
  refine ⟨fun m σ H => ∃ n, m = N - n ∧ Pv n σ H, ⟨_, 0, rfl, h0⟩, ?_⟩
  rintro m σ H ⟨n, rfl, p⟩
  refine hs n σ H p _ (fun H1 hn h => ?_) (fun H1 h => ?_)
  · exact iteT ⟨Pv (n + 1), fun σ' H' p' => ⟨N - (n + 1), by omega, n + 1, rfl, p'⟩, h⟩
  · exact iteF h
theorem Rw.row {K : PySem.W.Frag} {H : Hp} {v : V} {R : List (List Nat)} (h : Rw K H v R) {p : Nat} (hp : p < R.length) : ∃ xs x, Sq K H v xs ∧ xs[p]? = some x ∧ Sq K H x (nV (M14.row R p)) := by
  obtain ⟨xs, hS, hl, hr⟩ := h
  have hx : p < xs.length := by omega
  exact ⟨xs, xs[p], hS, List.getElem?_eq_getElem hx, hr p _ _ (List.getElem?_eq_getElem hx) (M14.row_at hp)⟩
section
variable {P : Program} {w : World} {K : PySem.W.Frag} {mg : Str → Option Value} {base : Heap}
def spMet (K : PySem.W.Frag) : Sp := fun vs H Q _ => ∃ (a : V) (R : List (List Nat)) (st : Nat), vs = [a, .int (st : Int)] ∧ Rw K H a R ∧ M14.Val R ∧ st < R.length ∧ R.length ≤ 40 ∧ ∀ H' p, Same H H' → H p = none → H' p = some (.lst (nV (M14.met R st))) → Q (.ref p) H'
theorem ok_met_from (T : All K mg) : FnOk P w K mg base CX0 1 T.f_met_from T.d_met_from ["rows", "start"] (spMet K) := by
  refine T.met_from.F.ok sc_met_from (fun vs H Q E h => ?_) (fun cdv A outer s H vs Q E hr h => ?_)
  · obtain ⟨a, R, st, rfl, _⟩ := h
    rfl
  · obtain ⟨a, R, st, rfl, hR, hv, hst, hfew, q⟩ := h
    refine ⟨_, pss_cons (ps_set (i := 2) sc_met_from.nd rfl (by first | exact Or.inl rfl | exact Or.inr rfl) (pe_lst pa_nil))
      (pss_cons (ps_expr (pe_bm PySem.F.plainAttrs_list PySem.F.slot_list_append PySem.F.type_list_append mt_append (pv 2) (pa_cons (pv 1) pa_nil)))
      (pss_cons (ps_set (i := 3) sc_met_from.nd rfl (by first | exact Or.inl rfl | exact Or.inr rfl) pe_int)
      (pss_cons (ps_while PassesOwn.never (pt_cmpR op_lt (pv 3) (pe_callB call_len_seq (by rfl) T.b_len PySem.boot_len (pa_cons (pv 2) pa_nil)) (nomark _))
        (pss_cons (ps_for PassesOwn.never rfl (pi_sq (pe_ix ix_sq (pv 0) (pe_ix ix_list (pv 2) (pv 3) (fun _ _ => rfl)) (fun _ _ => rfl))) (pg_name (i := 4) sc_met_from.nd rfl (by first | exact Or.inl rfl | exact Or.inr rfl))
        (pss_one (ps_if (pt_cmpR op_notInN (pv 4) (pv 2) (by rfl)) (pss_one (ps_expr (pe_bm PySem.F.plainAttrs_list PySem.F.slot_list_append PySem.F.type_list_append mt_append (pv 2) (pa_cons (pv 4) pa_nil)))) pss_nil)))
      (pss_one (ps_set (i := 3) sc_met_from.nd rfl (by first | exact Or.inl rfl | exact Or.inr rfl) (pe_op op_add (pv 3) pe_int)))))
      (pss_one (ps_ret (pv 2)))))), ?_⟩
    refine ⟨by show 0 ≤ sizeLine; decide, fun D nD => ?_⟩
    refine ⟨_, rfl, .inl ⟨rfl, _, .inl (.inl upd_same)⟩, _, rfl, D, _, _, rfl, rfl, upd_same, by show 0 < sizeLine; decide, ?_⟩
    rw [upd_upd]
    refine while_n (fun n σ H' => ∃ g, σ = [some a, some (.int (st : Int)), some (.ref D), some (.int (n : Int)), g] ∧ H' D = some (.lst (nV (M14.metI R st n))) ∧ Same H H') 40 ⟨none, rfl, upd_same, same_upd nD⟩ (fun n σ H1 p Kc kt kf => ?_)
    obtain ⟨g0, rfl, hD, sm⟩ := p
    have hlen := M14.metI_len hv hst n
    refine ⟨_, rfl, _, rfl, D, _, rfl, .inl (.inl (.inl hD)), _, _, rfl, rfl, _, rfl, ?_⟩
    rw [nV_len]
    by_cases hlt : n < (M14.metI R st n).length
    · rw [decide_eq_true (by omega : (n : Int) < ((M14.metI R st n).length : Int))]
      refine kt _ (by omega) ?_
      have hgt : (M14.metI R st n)[n]? = some (M14.metI R st n)[n] := List.getElem?_eq_getElem hlt
      generalize (M14.metI R st n)[n] = p at hgt
      have hp : p < R.length := M14.metI_lt hv hst n p (List.mem_of_getElem? hgt)
      obtain ⟨xs, x, hS, hx, hSx⟩ := hR.row hp
      refine ⟨_, rfl, _, rfl, _, rfl, D, _, _, _, rfl, rfl, .inl (.inl hD), atI_nat (nV_get hgt), xs, _, x, hS.same sm, rfl, atI_nat hx, _, H, hSx, sm, fun J G wk hG => ?_⟩
      refine for_it wk (fun i σ H' => ∃ g, σ = [some a, some (.int (st : Int)), some (.ref D), some (.int (n : Int)), g] ∧ H' D = some (.lst (nV (((M14.row R p).take i).foldl M14.addG (M14.metI R st n)))) ∧ Same H H') ⟨_, rfl, hD, sm⟩ (fun i σ H' _ p => by obtain ⟨_, _, _, sm⟩ := p; exact hG _ sm) (fun i x σ H2 H3 hi p' y => ?_) (fun σ H2 p' => ?_)
      · obtain ⟨g1, rfl, hD2, sm2⟩ := p'
        obtain ⟨rfl, y⟩ := y
        obtain ⟨g, hg, rfl⟩ := nV_inv y
        have hstep : ((M14.row R p).take (i + 1)).foldl M14.addG (M14.metI R st n) = M14.addG (((M14.row R p).take i).foldl M14.addG (M14.metI R st n)) g := by
          rw [List.take_add_one, hg, List.foldl_append]; rfl
        refine ⟨_, rfl, _, rfl, _, g, rfl, sq_list (.inl (.inl hD2)), _, rfl, ?_⟩
        by_cases hm : g ∈ ((M14.row R p).take i).foldl M14.addG (M14.metI R st n)
        · refine ite_f (by simp [hm]) ?_
          refine ⟨_, rfl, ?_, sm2⟩
          rw [hstep, hD2, M14.addG, if_pos hm]
        · refine ite_t (by simp [hm]) ?_
          have hlen2 : (((M14.row R p).take i).foldl M14.addG (M14.metI R st n)).length ≤ R.length := M14.nodup_len _ _ (M14.fold_nodup (M14.metI_nodup R st n)) fun z hz => by
            rcases M14.fold_mem.mp hz with hz | hz
            · exact M14.metI_lt hv hst n z hz
            · exact hv p hp z (List.mem_of_mem_take hz)
          refine ⟨_, rfl, .inl ⟨rfl, _, .inl (.inl hD2)⟩, _, rfl, D, _, _, rfl, rfl, hD2, by rw [nV_len]; exact Nat.lt_of_lt_of_le (Nat.lt_succ_of_le hlen2) (sz (by omega)), ?_⟩
          refine ⟨_, rfl, ?_, same_up sm2 nD⟩
          rw [upd_same, hstep, M14.addG, if_neg hm]
          unfold nV
          rw [List.map_append]
          rfl
      · obtain ⟨g1, rfl, hD2, sm2⟩ := p'
        rw [nV_len, List.take_length, ← M14.metI_succ hgt] at hD2
        exact ⟨_, rfl, _, _, rfl, rfl, _, by simp; rfl, hD2, sm2⟩
    · rw [decide_eq_false (by omega : ¬ (n : Int) < ((M14.metI R st n).length : Int))]
      refine kf _ ?_
      refine ⟨_, rfl, q _ D sm nD ?_⟩
      rw [hD, M14.met_of hv hst (by omega)]
end
end Lw
namespace Lw
open PySem PySem.Spec PyProof.Rows L3
open L2 hiding del del_same del_ne
def dTR (R : List (List Nat)) : PyData := .tuple (R.map fun r => .tuple (dN r))
def dLR (R : List (List Nat)) : PyData := .list (R.map fun r => .list (dN r))
theorem rw_dTR {K : PySem.W.Frag} {H : Hp} {v : V} {R : List (List Nat)} (h : Dp K H v (dTR R)) : Rw K H v R := by
  obtain ⟨a, xs, rfl, hS, hA⟩ := dp_tuple h
  refine ⟨xs, sq_tuple hS, by rw [dpAll_len hA, List.length_map], fun i x r h1 h2 => ?_⟩
  obtain ⟨d, h3, h4⟩ := dpAll_back hA h1
  rw [List.getElem?_map, h2] at h3
  cases h3
  obtain ⟨b, ys, rfl, hS2, hA2⟩ := dp_tuple h4
  rw [dpAll_nats hA2] at hS2
  exact sq_tuple hS2
theorem rw_dLR {K : PySem.W.Frag} {H : Hp} {v : V} {R : List (List Nat)} (h : Dp K H v (dLR R)) : Rw K H v R := by
  obtain ⟨a, xs, rfl, hS, hA⟩ := dp_list h
  refine ⟨xs, sq_list hS, by rw [dpAll_len hA, List.length_map], fun i x r h1 h2 => ?_⟩
  obtain ⟨d, h3, h4⟩ := dpAll_back hA h1
  rw [List.getElem?_map, h2] at h3
  cases h3
  obtain ⟨b, ys, rfl, hS2, hA2⟩ := dp_list h4
  rw [dpAll_nats hA2] at hS2
  exact sq_list hS2
theorem putF_len (f : Str) (v : V) : ∀ fs : List (Str × V), (putF f v fs).length ≤ fs.length + 1
  | [] => Nat.le_refl _
  | (g, x) :: fs => by
    unfold putF
    split
    · exact Nat.le_succ _
    · rw [List.length_cons, List.length_cons]
      exact Nat.succ_le_succ (putF_len f v fs)
theorem putF_lt {f : Str} {v : V} {fs : List (Str × V)} {n : Nat} (h : fs.length ≤ n) (hn : n + 1 < 1000) : (putF f v fs).length < 1000 := Nat.lt_of_le_of_lt (Nat.le_trans (putF_len f v fs) (Nat.succ_le_succ h)) hn
/-- a machine at a -/
structure Mach (C : Addr) (K : PySem.W.Frag) (H : Hp) (a : Addr) (sg : List Nat) (R : List (List Nat)) (k : List Bool) : Prop where
  at_ : ∃ dx r q, H a = some (.ins C dx [("own_letters", tx sg), ("own_rows", .ref r), ("own_kinds", .ref q)]) ∧ Dp K H (.ref r) (dTR R) ∧ SqT K H q (k.map V.bl)
  lets : Lets sg
  good : M14.Good sg.length R k
theorem Mach.same {C : Addr} {K : PySem.W.Frag} {H H' : Hp} {a : Addr} {sg : List Nat} {R : List (List Nat)} {k : List Bool} (h : Mach C K H a sg R k) (s : Same H H') : Mach C K H' a sg R k := by
  obtain ⟨⟨dx, r, q, h1, h2, h3⟩, h4, h5⟩ := h
  exact ⟨⟨dx, r, q, s _ _ h1, Dp.same s h2, sqT_same h3 s⟩, h4, h5⟩
section
variable {P : Program} {w : World} {K : PySem.W.Frag} {mg : Str → Option Value} {base : Heap}
def spInit (K : PySem.W.Frag) (C : Addr) : Sp := fun vs H Q _ => ∃ (x dx : Addr) (sg : List Nat) (a b : V) (R : List (List Nat)) (k : List Bool), vs = [.ref x, tx sg, a, b] ∧ H x = some (.ins C dx []) ∧ Lets sg ∧ Rw K H a R ∧ Sq K H b (k.map V.bl) ∧ M14.Good sg.length R k ∧
  ∀ H', (∀ b o, H b = some o → b ≠ x → H' b = some o) → Mach C K H' x sg R k → Q .non H'
theorem ok_Machine_init (T : All K mg) : FnOk P w K mg base CX0 4 T.f_Machine_init T.d_Machine_init ["self", "letters", "rows", "kinds"] (spInit K T.C_Machine) := by
  refine T.Machine_init.F.ok sc_Machine_init (fun vs H Q E h => ?_) (fun cdv A outer s H vs Q E hr h => ?_)
  · obtain ⟨x, dx, sg, a, b, R, k, rfl, _⟩ := h
    rfl
  · obtain ⟨x, dx, sg, a, b, R, k, rfl, hx, hl, hR, hk, hG, q⟩ := h
    refine ⟨_, pss_cons (ps_expr (pe_call (ok_want_machine T) (hr.mono (by decide)) (by rfl) T.want_machine.g T.want_machine.F.kp T.want_machine.b .nil pass0 (pa_cons (pv 1) (pa_cons (pv 2) (pa_cons (pv 3) pa_nil)))))
      (pss_cons (ps_set (i := 4) sc_Machine_init.nd rfl (by first | exact Or.inl rfl | exact Or.inr rfl) (pe_call (ok_met_from T) (hr.mono (by decide)) (by rfl) T.met_from.g T.met_from.F.kp T.met_from.b .nil pass0 (pa_cons (pv 2) (pa_cons pe_int pa_nil))))
      (pss_cons (ps_for PassesOwn.never rfl (pi_range1 rfl T.b_range (pa_cons (pe_callB call_len_seq (by rfl) T.b_len PySem.boot_len (pa_cons (pv 2) pa_nil)) pa_nil)) (pg_name (i := 5) sc_Machine_init.nd rfl (by first | exact Or.inl rfl | exact Or.inr rfl))
        (pss_one (ps_if (pt_cmpR op_notInN (pv 5) (pv 4) (by rfl)) (pss_one ps_never) pss_nil)))
      (pss_cons (ps_fld (pv 0) (pv 1) rfl)
      (pss_cons (ps_fld (pv 0) (pe_callTy call_tuple_of (by rfl) T.b_tuple (show bootBuiltins "tuple" = some (.type "tuple") by decide +kernel) (pa_cons (pe_lc (own := [("row", 6)]) (g := gName 6) (tt := tYes) rfl sc_Machine_init.nd (pi_sq (pv 2))
          (blkOk_by (own := [("row", 6)]) (N := ["self", "letters", "rows", "kinds", "met", "place", "row"]) (sc := defScope s_Machine_init) (by decide +kernel))
          (fun _ _ _ _ _ => pg_name (i := 6) sc_Machine_init.nd rfl (by first | exact Or.inl rfl | exact Or.inr rfl)) (fun _ _ _ _ _ => pts_nil)
          (fun _ _ _ _ _ => (pe_callTy (call_tuple_ofK (K := K) rfl) (by rfl) T.b_tuple (show bootBuiltins "tuple" = some (.type "tuple") by decide +kernel) (pa_cons (pv 6) pa_nil)))) pa_nil)) rfl)
      (pss_one (ps_fld (pv 0) (pe_callTy call_tuple_of (by rfl) T.b_tuple (show bootBuiltins "tuple" = some (.type "tuple") by decide +kernel) (pa_cons (pv 3) pa_nil)) rfl)))))), ?_⟩
    refine ⟨_, rfl, _, rfl, _, rfl, sg, a, b, R, k, rfl, hl, hR, hk, hG.toSht, fun H1 s1 => ?_⟩
    refine ⟨_, rfl, a, R, 0, rfl, hR.same s1, hG.val, hG.ne, hG.few, fun H2 M s2 nM hM => ?_⟩
    have s12 := s1.trans s2
    obtain ⟨xs, hS, hlen, hrow⟩ := id hR
    obtain ⟨aa, rfl, hSS⟩ := hS.same s12
    refine ⟨_, rfl, aa, xs, rfl, hSS, _, rfl, by omega, by have := hG.few; omega, ?_⟩
    rw [show ((xs.length : Int)).toNat = xs.length by omega]
    refine for_it walk_range (fun i σ H' => ∃ p, σ = [some (.ref x), some (tx sg), some (.ref aa), some b, some (.ref M), p, none] ∧ H' = H2) ⟨none, rfl, rfl⟩ (fun _ _ _ _ _ => trivial) (fun i x' σ H3 H4 hi p y => ?_) (fun σ H3 p => ?_)
    · obtain ⟨p0, rfl, rfl⟩ := p
      obtain ⟨rfl, rfl⟩ := y
      refine ⟨_, rfl, _, rfl, _, i, congrArg V.int (Int.zero_add _), sq_list (.inl (.inl hM)), _, rfl, ite_f ?_ ⟨_, rfl, rfl⟩⟩
      have := hG.all i (by omega)
      simp [this]
    · obtain ⟨p0, rfl, rfl⟩ := p
      have hx2 := s12 _ _ hx
      have hB0 : (del H x) x = none := del_at H x
      have sB2 : Same (del H x) H3 := (del_same H x).trans s12
      have hSB : Sq K (del H x) (.ref aa) xs := sq_del hx hS
      have hrB : ∀ (i : Nat) (y : V) (r : List Nat), xs[i]? = some y → R[i]? = some r → Sq K (del H x) y (nV r) := fun i y r h1 h2 => sq_del hx (hrow i y r h1 h2)
      have hkB : Sq K (del H x) b (k.map V.bl) := sq_del hx hk
      refine ⟨_, rfl, _, rfl, x, T.C_Machine, dx, [], rfl, hx2, T.cl_Machine, T.n_Machine_own_letters, by decide, ?_⟩
      have sB4 : Same (del H x) (upd H3 x (.ins T.C_Machine dx (putF "own_letters" (tx sg) []))) := same_up sB2 hB0
      refine ⟨_, rfl, xs, del H x, hSB, sB4, fun J G wk hGG D nD => ?_⟩
      have hBD : (del H x) D = none := sB4.free nD
      refine lc_data (K := K) wk (R.map fun r => .tuple (dN r)) (by rw [List.length_map, hlen]) (sz (by have := hG.few; omega)) nD (fun H' s' => hGG H' (sB4.trans s')) (fun i y Hh H' acc d C hi sm hD yy hd c => ?_) gName_mono (fun H5 xs' s5 hD5 hA => ?_)
      · obtain ⟨rfl, hy⟩ := yy
        rw [List.getElem?_map] at hd
        obtain ⟨r, hr1, rfl⟩ := Option.map_eq_some_iff.mp hd
        obtain ⟨pa, rfl, hp⟩ := hrB i y r hy hr1
        have sBh := sB4.trans sm
        refine ⟨rfl, ⟨_, rfl, pa, nV r, rfl, ?_⟩⟩
        rcases hp with hp | hp
        · refine .inl ⟨sq_same hp sBh, fun l nl => c _ _ (same_upd nl) (.tup (.inl (.inl ?_)) (dpAll_nV r))⟩
          rw [del_ne (fun e => by rw [e, hD] at nl; cases nl), upd_same]
        · exact .inr ⟨sqT_same hp sBh, c _ _ (Same.refl _) (.tup (sqT_same hp (same_del sBh hBD)) (dpAll_nV r))⟩
      · have hx5 := s5 _ _ (upd_same (H := H3) (a := x))
        have nDx : x ≠ D := fun e => by rw [← e, upd_same] at nD; cases nD
        refine ⟨D, xs', rfl, .inl ⟨.inl (.inl hD5), fun r nr => ?_⟩⟩
        have nrx : x ≠ r := fun e => by rw [← e, hx5] at nr; cases nr
        have hx6 : upd H5 r (.tup xs') x = some (.ins T.C_Machine dx (putF "own_letters" (tx sg) [])) := by rw [upd_ne nrx]; exact hx5
        refine ⟨_, rfl, x, T.C_Machine, dx, _, rfl, hx6, T.cl_Machine, T.n_Machine_own_rows, putF_lt (n := 0) (Nat.zero_le _) (by decide), ?_⟩
        have sB5 := sB4.trans s5
        have hBr : (del H x) r = none := sB5.free nr
        have sB6 : Same (del H x) (upd (upd H5 r (.tup xs')) x (.ins T.C_Machine dx (putF "own_rows" (.ref r) (putF "own_letters" (tx sg) [])))) := same_up (same_up sB5 hBr) hB0
        have hA2 : DpAll K (del (del H5 D) x) xs' (R.map fun r => .tuple (dN r)) := dpAll_del (by rw [del_ne nDx]; exact hx5) hA
        have sA : ∀ H7, Same (upd (del (del H5 D) x) r (.tup xs')) H7 → Dp K H7 (.ref r) (dTR R) := fun H7 s7 => .tup (.inl (.inl (s7 _ _ upd_same))) (DpAll.same ((same_upd (by
          rw [del_ne nrx.symm]; unfold del; split <;> first | rfl | exact nr)).trans s7) hA2)
        have s66 : Same (upd (del (del H5 D) x) r (.tup xs')) (upd (upd H5 r (.tup xs')) x (.ins T.C_Machine dx (putF "own_rows" (.ref r) (putF "own_letters" (tx sg) [])))) := fun bb o e => by
          have nbx : bb ≠ x := fun z => by
            rw [z, upd_ne nrx, del_at] at e; cases e
          rw [upd_ne nbx]
          by_cases hbr : bb = r
          · rw [hbr, upd_same] at e ⊢; exact e
          · rw [upd_ne hbr, del_ne nbx] at e
            rw [upd_ne hbr]
            exact del_same _ _ _ _ e
        have fin : ∀ (H7 : Hp) (qq : Addr), Same (upd (upd H5 r (.tup xs')) x (.ins T.C_Machine dx (putF "own_rows" (.ref r) (putF "own_letters" (tx sg) [])))) H7 → SqT K (del H7 x) qq (k.map V.bl) → Q .non (upd H7 x (.ins T.C_Machine dx (putF "own_kinds" (.ref qq) (putF "own_rows" (.ref r) (putF "own_letters" (tx sg) []))))) := fun H7 qq s7 hq => by
          have hx7 := s7 _ _ (upd_same (a := x))
          have sd : Same (del H7 x) (upd H7 x (.ins T.C_Machine dx (putF "own_kinds" (.ref qq) (putF "own_rows" (.ref r) (putF "own_letters" (tx sg) []))))) := same_up (del_same _ _) (del_at _ _)
          refine q _ (fun bb o e nb => ?_) ⟨⟨dx, r, qq, upd_same, ?_, sqT_same hq sd⟩, hl, hG⟩
          · rw [upd_ne nb]
            exact s7 _ _ (sB6 _ _ (by rw [del_ne nb]; exact e))
          · exact Dp.same sd (dp_del hx7 (sA _ (s66.trans s7)))
        obtain ⟨bb, rfl, hkk⟩ := id hkB
        refine ⟨_, rfl, bb, k.map V.bl, rfl, ?_⟩
        rcases hkk with hkk | hkk
        · refine .inl ⟨sq_same hkk sB6, fun qq nq => ?_⟩
          have nqx : x ≠ qq := fun e => by rw [← e, upd_same] at nq; cases nq
          refine ⟨_, rfl, x, T.C_Machine, dx, _, rfl, by rw [upd_ne nqx, upd_same], T.cl_Machine, T.n_Machine_own_kinds, putF_lt (n := 1) (putF_len _ _ _) (by decide), ?_⟩
          exact fin _ qq (same_upd nq) (.inl (.inl (by rw [del_ne nqx.symm, upd_same])))
        · refine .inr ⟨sqT_same hkk sB6, ?_⟩
          refine ⟨_, rfl, x, T.C_Machine, dx, _, rfl, upd_same, T.cl_Machine, T.n_Machine_own_kinds, putF_lt (n := 1) (putF_len _ _ _) (by decide), ?_⟩
          exact fin _ bb (Same.refl _) (sqT_same hkk (same_del sB6 hB0))
end
end Lw
namespace Lw
open PySem PySem.Spec PyProof.Rows L3
open L2 hiding del del_same del_ne
theorem kAt_get {k : List Bool} {p : Nat} (h : p < k.length) : (k.map V.bl)[p]? = some (.bl (M14.kAt k p)) := by
  rw [List.getElem?_map, List.getElem?_eq_getElem h]
  unfold M14.kAt
  rw [List.getD_eq_getElem?_getD, List.getElem?_eq_getElem h]
  rfl
section
variable {P : Program} {w : World} {K : PySem.W.Frag} {mg : Str → Option Value} {base : Heap}
def spKinds (K : PySem.W.Frag) (C : Addr) : Sp := fun vs H Q _ => ∃ a sg R k, vs = [.ref a] ∧ Mach C K H a sg R k ∧ ∀ p, H p = none → Q (.ref p) (upd H p (.lst (k.map V.bl)))
theorem ok_Machine_kinds (T : All K mg) : FnOk P w K mg base CX0 1 T.f_Machine_kinds T.d_Machine_kinds ["self"] (spKinds K T.C_Machine) := by
  refine T.Machine_kinds.F.ok sc_Machine_kinds (fun vs H Q E h => ?_) (fun cdv A outer s H vs Q E hr h => ?_)
  · obtain ⟨a, sg, R, k, rfl, _⟩ := h
    rfl
  · obtain ⟨a, sg, R, k, rfl, hM, q⟩ := h
    obtain ⟨dx, r, qq, hat, hr1, hk1⟩ := hM.at_
    refine ⟨_, pss_one (ps_ret (pe_callTy call_list_of (by rfl) T.b_list PyProof.Rows.boot_list (pa_cons (pe_fld (pv 0) rfl) pa_nil))), ?_⟩
    exact ⟨_, rfl, a, T.C_Machine, dx, _, _, rfl, hat, T.cl_Machine, T.n_Machine_own_kinds, rfl, qq, _, rfl, .inr hk1, q⟩
/-- a new list of new lists -/
def NewRows (H H' : Hp) (p : Addr) (R : List (List Nat)) : Prop := ∃ xs, H' p = some (.lst xs) ∧ xs.length = R.length ∧ ∀ (i : Nat) (x : V), xs[i]? = some x → ∃ q, x = .ref q ∧ H q = none ∧ q ≠ p ∧ H' q = some (.lst (nV (M14.row R i)))
theorem NewRows.dp {K : PySem.W.Frag} {H H' : Hp} {p : Addr} {R : List (List Nat)} (h : NewRows H H' p R) : Dp K H' (.ref p) (dLR R) := by
  obtain ⟨xs, hp, hl, hx⟩ := h
  refine .lst (.inl (.inl hp)) (dpAll_of (by rw [List.length_map]; exact hl) fun i x d h1 h2 => ?_)
  obtain ⟨q, rfl, _, _, hq⟩ := hx i x h1
  rw [List.getElem?_map] at h2
  obtain ⟨r, hr, rfl⟩ := Option.map_eq_some_iff.mp h2
  rw [M14.row_get hr] at hq
  exact .lst (.inl (.inl hq)) (dpAll_nV r)
def spRows (K : PySem.W.Frag) (C : Addr) : Sp := fun vs H Q _ => ∃ a sg R k, vs = [.ref a] ∧ Mach C K H a sg R k ∧ ∀ H' p, Same H H' → H p = none → NewRows H H' p R → Q (.ref p) H'
theorem ok_Machine_rows (T : All K mg) : FnOk P w K mg base CX0 1 T.f_Machine_rows T.d_Machine_rows ["self"] (spRows K T.C_Machine) := by
  refine T.Machine_rows.F.ok sc_Machine_rows (fun vs H Q E h => ?_) (fun cdv A outer s H vs Q E hr h => ?_)
  · obtain ⟨a, sg, R, k, rfl, _⟩ := h
    rfl
  · obtain ⟨a, sg, R, k, rfl, hM, q⟩ := h
    obtain ⟨dx, r, qq, hat, hr1, hk1⟩ := hM.at_
    have hfew := hM.good.few
    obtain ⟨xs, hS, hl, hrow⟩ := rw_dTR hr1
    obtain ⟨_, _, e', hST, _⟩ := dp_tuple hr1
    cases e'
    obtain ⟨ra, ys, e2, hST, hAll⟩ := dp_tuple hr1
    cases e2
    have hyl : ys.length = R.length := by rw [dpAll_len hAll, List.length_map]
    refine ⟨_, pss_one (ps_ret (pe_lc (own := [("row", 1)]) (g := gName 1) (tt := tYes) rfl sc_Machine_rows.nd (pi_tup (pe_fld (pv 0) rfl))
          (blkOk_by (own := [("row", 1)]) (N := ["self", "row"]) (sc := defScope s_Machine_rows) (by decide +kernel))
          (fun _ _ _ _ _ => pg_name (i := 1) sc_Machine_rows.nd rfl (by first | exact Or.inl rfl | exact Or.inr rfl)) (fun _ _ _ _ _ => pts_nil)
          (fun _ _ _ _ _ => (pe_callTy (call_list_ofK (K := K) rfl) (by rfl) T.b_list PyProof.Rows.boot_list (pa_cons (pv 1) pa_nil))))), ?_⟩
    refine ⟨_, rfl, a, T.C_Machine, dx, _, _, rfl, hat, T.cl_Machine, T.n_Machine_own_rows, rfl, r, rfl, ⟨_, hST⟩, fun D nD => ?_⟩
    refine lc_dp (walk_tup (xs := ys)) (fun i acc H' => Same H H' ∧ acc.length = i ∧ ∀ (j : Nat) (x : V), acc[j]? = some x → ∃ q, x = .ref q ∧ H q = none ∧ q ≠ D ∧ H' q = some (.lst (nV (M14.row R j)))) (sz (by omega)) (fun i acc H' p => Nat.le_of_eq p.2.1) nD ⟨Same.refl _, rfl, fun j x e => by simp at e⟩ (fun i acc H' p _ => sqT_same hST (p.1.trans (del_same _ _))) (fun i y Hh H' acc C N hi p hD yy c n => ?_) (fun H5 xs' hD5 p => ?_)
    · obtain ⟨rfl, hy⟩ := yy
      obtain ⟨sm, hlen, hacc⟩ := p
      obtain ⟨d, hd, hdp⟩ := dpAll_back hAll hy
      rw [List.getElem?_map] at hd
      obtain ⟨rr, hr2, rfl⟩ := Option.map_eq_some_iff.mp hd
      obtain ⟨pa, zs, rfl, hS2, hA2⟩ := dp_tuple hdp
      rw [dpAll_nats hA2] at hS2
      have sH := sm.trans (del_same _ _)
      refine ⟨rfl, yes_te ⟨_, rfl, pa, nV rr, rfl, .inr (sqT_same hS2 sH), fun l nl => ?_⟩⟩
      have nlD : l ≠ D := fun e => by rw [e, hD] at nl; cases nl
      refine c _ _ (by rw [upd_ne nlD.symm]; exact hD) ⟨same_del (same_up sH (sH.free nl)) nD, by rw [List.length_append, hlen]; rfl, fun j x e => ?_⟩
      by_cases hj : j < acc.length
      · rw [List.getElem?_append_left hj] at e
        obtain ⟨q1, e1, n1, n2, e2⟩ := hacc j x e
        refine ⟨q1, e1, n1, n2, ?_⟩
        rw [del_ne n2] at e2
        rw [del_ne n2, upd_ne (ne_of_none e2 nl)]
        exact e2
      · have hj2 : j = i := by
          have := (List.getElem?_eq_some_iff.mp e).1
          rw [List.length_append, List.length_singleton] at this
          omega
        subst hj2
        rw [List.getElem?_append_right (by omega), hlen, Nat.sub_self] at e
        cases e
        exact ⟨l, rfl, sH.free nl, nlD, by rw [del_ne nlD, upd_same, M14.row_get hr2]⟩
    · obtain ⟨sm, hlen, hacc⟩ := p
      refine q _ D (sm.trans (del_same _ _)) nD ⟨xs', hD5, by rw [hlen, hyl], fun i x e => ?_⟩
      obtain ⟨q1, e1, n1, n2, e2⟩ := hacc i x e
      exact ⟨q1, e1, n1, n2, del_same _ _ _ _ e2⟩
def spLed (K : PySem.W.Frag) (C : Addr) : Sp := fun vs H Q _ => ∃ (a : Addr) (p : Nat) (t sg : List Nat) (R : List (List Nat)) (k : List Bool), vs = [.ref a, .int (p : Int), tx t] ∧ Mach C K H a sg R k ∧ p < R.length ∧ (∀ c ∈ t, c ∈ sg) ∧ Q (.int ((M14.led sg R p t : Nat) : Int)) H
theorem ok_led (T : All K mg) : FnOk P w K mg base CX0 1 T.f_led T.d_led ["machine", "place", "text"] (spLed K T.C_Machine) := by
  refine T.led.F.ok sc_led (fun vs H Q E h => ?_) (fun cdv A outer s H vs Q E hr h => ?_)
  · obtain ⟨a, p, t, sg, R, k, rfl, _⟩ := h
    rfl
  · obtain ⟨a, p, t, sg, R, k, rfl, hM, hp, ht, q⟩ := h
    obtain ⟨dx, r, qq, hat, hr1, hk1⟩ := hM.at_
    obtain ⟨ra, ys, e2, hST, hAll⟩ := dp_tuple hr1
    cases e2
    refine ⟨_, pss_cons (ps_set (i := 3) sc_led.nd rfl (by first | exact Or.inl rfl | exact Or.inr rfl) (pv 1))
      (pss_cons (ps_for PassesOwn.never rfl (pi_str (pv 2)) (pg_name (i := 4) sc_led.nd rfl (by first | exact Or.inl rfl | exact Or.inr rfl))
        (pss_one (ps_set (i := 3) sc_led.nd rfl (by first | exact Or.inl rfl | exact Or.inr rfl) (pe_ix ix_tup (pe_ix ix_tup (pe_fld (pv 0) rfl) (pv 3) (fun _ _ => rfl)) (pe_bm PySem.F.plainAttrs_str PySem.F.slot_str_index PySem.F.type_str_index mt_indexT (pe_fld (pv 0) rfl) (pa_cons (pv 4) pa_nil)) (fun _ _ => rfl)))))
      (pss_one (ps_ret (pv 3)))), ?_⟩
    refine ⟨_, rfl, _, rfl, tS t, rfl, for_it walk_tx (fun i σ H' => ∃ c, σ = [some (.ref a), some (.int (p : Int)), some (tx t), some (.int ((M14.led sg R p (t.take i) : Nat) : Int)), c] ∧ H' = H) ⟨none, rfl, rfl⟩ (fun _ _ _ _ _ => trivial) (fun i x σ H1 H2 hi pp y => ?_) (fun σ H' pp => ?_)⟩
    · obtain ⟨c0, rfl, rfl⟩ := pp
      obtain ⟨rfl, c, hc, rfl⟩ := y
      have hcs := ht c (List.mem_of_getElem? hc)
      have hlt : M14.led sg R p (t.take i) < R.length := M14.led_lt hM.good.toSht hp fun x hx => ht x (List.mem_of_mem_take hx)
      obtain ⟨g, hg, hgl, hgd⟩ := M14.led_step hM.good.toSht hlt hcs
      obtain ⟨y, hy, hdy⟩ := dpAll_get hAll (i := M14.led sg R p (t.take i)) (d := .tuple (dN (M14.row R (M14.led sg R p (t.take i))))) (by rw [List.getElem?_map, M14.row_at hlt]; rfl)
      obtain ⟨ya, zs, rfl, hSy, hAy⟩ := dp_tuple hdy
      rw [dpAll_nats hAy] at hSy
      refine ⟨_, rfl, a, T.C_Machine, dx, _, _, rfl, hat, T.cl_Machine, T.n_Machine_own_rows, rfl, _, rfl, r, ys, _, _, rfl, rfl, hST, atI_nat hy, ?_⟩
      refine ⟨_, rfl, a, T.C_Machine, dx, _, _, rfl, hat, T.cl_Machine, T.n_Machine_own_letters, rfl, rfl, _, rfl, sg, c, rfl, rfl, hcs, ?_⟩
      refine ⟨ya, _, _, _, rfl, rfl, hSy, atI_nat (nV_get hg), some (tx [c]), ?_, rfl⟩
      rw [List.take_add_one, hc]
      show _ = [_, _, _, some (V.int ((M14.led sg R p (t.take i ++ [c]) : Nat) : Int)), _]
      rw [M14.led_snoc, hgd]
      rfl
    · obtain ⟨c0, rfl, rfl⟩ := pp
      rw [List.take_length]
      exact ⟨_, rfl, q⟩
def spTaken (K : PySem.W.Frag) (C : Addr) : Sp := fun vs H Q _ => ∃ (a : Addr) (t sg : List Nat) (R : List (List Nat)) (k : List Bool), vs = [.ref a, tx t] ∧ Mach C K H a sg R k ∧ (∀ c ∈ t, c ∈ sg) ∧ Q (.bl (M14.kAt k (M14.led sg R 0 t))) H
theorem ok_is_taken (T : All K mg) : FnOk P w K mg base CX0 2 T.f_is_taken T.d_is_taken ["machine", "text"] (spTaken K T.C_Machine) := by
  refine T.is_taken.F.ok sc_is_taken (fun vs H Q E h => ?_) (fun cdv A outer s H vs Q E hr h => ?_)
  · obtain ⟨a, t, sg, R, k, rfl, _⟩ := h
    rfl
  · obtain ⟨a, t, sg, R, k, rfl, hM, ht, q⟩ := h
    obtain ⟨dx, r, qq, hat, hr1, hk1⟩ := hM.at_
    refine ⟨_, pss_one (ps_ret (pe_ix ix_tup (pe_fld (pv 0) rfl) (pe_call (ok_led T) (hr.mono (by decide)) (by rfl) T.led.g T.led.F.kp T.led.b .nil pass0 (pa_cons (pv 0) (pa_cons pe_int (pa_cons (pv 1) pa_nil)))) (fun _ _ => rfl))), ?_⟩
    refine ⟨_, rfl, a, T.C_Machine, dx, _, _, rfl, hat, T.cl_Machine, T.n_Machine_own_kinds, rfl, _, rfl, _, rfl, a, 0, t, sg, R, k, rfl, hM, hM.good.ne, ht, ?_⟩
    refine ⟨qq, _, _, _, rfl, rfl, hk1, atI_nat (kAt_get ?_), q⟩
    rw [hM.good.kin]
    exact M14.led_lt hM.good.toSht hM.good.ne ht
end
end Lw
namespace Lw
open PySem PySem.Spec PyProof.Rows L3
open L2 hiding del del_same del_ne
theorem shownLen {d : PyData} {w k : Nat} (h : Wt d w k) : d.shown.length ≤ 12 * w + 10 := by
  have h1 := PyData.shown_le 10 (by decide) d h.l
  have h2 := h.w
  have h3 : (10 + 2) * d.weight ≤ 12 * w := Nat.mul_le_mul_left 12 h2
  omega
theorem wt_dLR {n : Nat} {R : List (List Nat)} {k : List Bool} (h : M14.Sht n R k) (hn : n ≤ 3) : Wt (dLR R) 3760 2 := by
  refine (Wt.list (w := 93) (k := 1) (n := 40) (fun d hd => ?_) (by rw [List.length_map]; exact h.few)).mono (by decide) (by decide)
  obtain ⟨r, hr, rfl⟩ := List.mem_map.mp hd
  obtain ⟨i, hi⟩ := List.mem_iff_getElem?.mp hr
  have hlt := (List.getElem?_eq_some_iff.mp hi).1
  refine Wt.nats (n := 3) (fun c hc => ?_) (by rw [h.len r hr]; exact hn)
  have := h.val i hlt c (by rw [M14.row_get hi]; exact hc)
  have := h.few
  omega
theorem wt_sg {sg : List Nat} (h : Lets sg) : Wt (.str (tS sg)) 3 0 := Wt.text (fun c hc => by have := h.az c hc; omega) h.few
theorem wt_kinds {n : Nat} {R : List (List Nat)} {k : List Bool} (h : M14.Sht n R k) : Wt (.list (dB k)) 40 1 := Wt.bools (by rw [h.kin]; exact h.few)
/-- how a machine is shown -/
def spk (sg : List Nat) (R : List (List Nat)) (k : List Bool) : Str :=
  ((((("Machine(" : Str) ++ reprText (tS sg)) ++ (", " : Str)) ++ (dLR R).shown) ++ (", " : Str)) ++ (PyData.list (dB k)).shown ++ (")" : Str)
theorem dp_bools {K : PySem.W.Frag} {H : Hp} : ∀ k : List Bool, DpAll K H (k.map V.bl) (dB k)
  | [] => .nil
  | b :: k => .cons (.bl b) (dp_bools k)
section
variable {P : Program} {w : World} {K : PySem.W.Frag} {mg : Str → Option Value} {base : Heap}
def spRepr (K : PySem.W.Frag) (C : Addr) : Sp := fun vs H Q _ => ∃ (a : Addr) (sg : List Nat) (R : List (List Nat)) (k : List Bool), vs = [.ref a] ∧ Mach C K H a sg R k ∧ ∀ H', Same H H' → Q (.str (spk sg R k)) H'
theorem ok_Machine_repr (T : All K mg) : FnOkG P w K mg base CX0 2 T.f_Machine_repr T.d_Machine_repr ["self"] (spRepr K T.C_Machine) := by
  refine okG T.Machine_repr.F sc_Machine_repr (fun vs H Q E h => ?_) (fun cdv A outer s H vs Q E hr hG h => ?_)
  · obtain ⟨a, sg, R, k, rfl, _⟩ := h
    rfl
  · obtain ⟨a, sg, R, k, rfl, hM, q⟩ := h
    obtain ⟨dx, r, qq, hat, hr1, hk1⟩ := hM.at_
    have l1 : (reprText (tS sg)).length ≤ 46 := shownLen (wt_sg hM.lets)
    have l2 := shownLen (wt_dLR hM.good.toSht hM.lets.few)
    have l3 := shownLen (wt_kinds hM.good.toSht)
    have c1 : ("Machine(" : Str).length = 8 := by decide +kernel
    have c2 : (", " : Str).length = 2 := by decide +kernel
    have c3 : (")" : Str).length = 1 := by decide +kernel
    have c0 : Str.empty.length = 0 := rfl
    refine ⟨_, pss_one (ps_ret (pe_joined (PJ.cons pe_str (PJ.cons (pe_fmtR (pe_fld (pv 0) rfl)) (PJ.cons pe_str (PJ.cons (pe_fmtRD hr hG (pe_meth0 (pv 0) T.cl_Machine T.Machine_rows.m (ok_Machine_rows T) (hr.mono (by decide)) T.Machine_rows.b .nil pass0)) (PJ.cons pe_str (PJ.cons (pe_fmtRD hr hG (pe_meth0 (pv 0) T.cl_Machine T.Machine_kinds.m (ok_Machine_kinds T) (hr.mono (by decide)) T.Machine_kinds.b .nil pass0)) (PJ.cons pe_str PJ.nil))))))))), ?_⟩
    have z : ∀ n, n ≤ 100000 → n ≤ sizeLine := fun n h => sz h
    refine ⟨_, rfl, z _ (by rw [strLen_append]; omega), ?_⟩
    refine ⟨_, rfl, a, T.C_Machine, dx, _, _, rfl, hat, T.cl_Machine, T.n_Machine_own_letters, rfl, .inl ⟨_, rfl, z _ (by omega), _, rfl, z _ (by rw [strLen_append, strLen_append]; omega), ?_⟩⟩
    refine ⟨_, rfl, z _ (by rw [strLen_append, strLen_append, strLen_append]; omega), ?_⟩
    refine ⟨_, rfl, a, dx, _, rfl, hat, rfl, a, sg, R, k, rfl, hM, fun H1 p1 s1 n1 hnew => ?_⟩
    have sh1 := (wt_dLR hM.good.toSht hM.lets.few).shw (by decide) (by decide)
    refine ⟨p1, dLR R, rfl, hnew.dp, sh1.s, sh1.z, sh1.p, _, rfl, z _ (by rw [strLen_append, strLen_append, strLen_append, strLen_append]; omega), ?_⟩
    refine ⟨_, rfl, z _ (by rw [strLen_append, strLen_append, strLen_append, strLen_append, strLen_append]; omega), ?_⟩
    refine ⟨_, rfl, a, dx, _, rfl, s1 _ _ hat, rfl, a, sg, R, k, rfl, hM.same s1, fun p2 n2 => ?_⟩
    have sh2 := (wt_kinds hM.good.toSht).shw (by decide) (by decide)
    refine ⟨p2, .list (dB k), rfl, .lst (.inl (.inl upd_same)) (dp_bools k), sh2.s, sh2.z, sh2.p, _, rfl, z _ (by rw [strLen_append, strLen_append, strLen_append, strLen_append, strLen_append, strLen_append]; omega), ?_⟩
    refine ⟨_, rfl, z _ (by rw [strLen_append, strLen_append, strLen_append, strLen_append, strLen_append, strLen_append, strLen_append]; omega), ?_⟩
    have := q _ (same_up (o := .lst (k.map V.bl)) s1 (s1.free n2))
    unfold spk at this
    rw [← Str.empty_append ("Machine(" : Str)] at this
    exact this
end
end Lw
namespace L3
open PySem PySem.Spec PyProof.Rows L2
theorem sIx_neg (n d : Nat) : HT.sIx n d (some (-1)) = n - 1 := by
  unfold HT.sIx
  cases n with
  | zero => simp
  | succ n => simp <;> omega
theorem cut_but (l : List Nat) : cutS (tS l) none (some (-1)) = tS l.dropLast := by
  unfold cutS
  rw [HT.sIx_none, sIx_neg, tS_len]
  show tS _ = _
  congr 1
  show (List.drop 0 l).take (l.length - 1 - 0) = l.dropLast
  rw [List.drop_zero, Nat.sub_zero, List.dropLast_eq_take]
theorem cut_last (l : List Nat) : cutS (tS l) (some (-1)) none = tS (l.drop (l.length - 1)) := by
  unfold cutS
  rw [HT.sIx_none, sIx_neg, tS_len]
  show tS _ = _
  congr 1
  show (List.drop (l.length - 1) l).take (l.length - (l.length - 1)) = _
  rw [List.take_of_length_le (by rw [List.length_drop]; exact Nat.le_refl _)]
def rSlN : V → Option Int → Option Int → Hp → VK → Prop := fun x lo hi H Q => ∃ l, x = tx l ∧ l.length ≤ sizeLine ∧
  ((lo = none ∧ hi = some (-1) ∧ Q (tx l.dropLast) H) ∨ (hi = none ∧ lo = some (-1) ∧ Q (tx (l.drop (l.length - 1))) H))
theorem sl_txN {X : Cx} : SlR X rSlN := by
  intro pins s σ H x v vl vu lo hi sl Q I rx hs pl pu h
  obtain ⟨l, rfl, hz, h⟩ := h
  refine sl_str pins s σ H _ v vl vu lo hi sl Q I rx hs pl pu ⟨_, rfl, by rw [tS_len]; exact hz, ?_⟩
  rcases h with ⟨rfl, rfl, q⟩ | ⟨rfl, rfl, q⟩
  · rw [cut_but]; exact q
  · rw [cut_last]; exact q
end L3
namespace L3
open PySem PySem.Spec PyProof.Rows L2
section
variable {J : It} {n : Nat} {G : Hp → Prop} {Y : Nat → Hp → V → Hp → Prop}
theorem lc2_it (w : Walk J n G Y) {g : TG} {tt : TT} {wi1 : TI} {vs : List Nat} {σ : L2.St} {H1 : Hp} {D : Addr} {Qd : Hp → Prop} {IN : L2.St → (Hp → Prop) → It → Hp → Prop} (Pv : Nat → Hp → Prop) (h0 : Pv 0 (upd H1 D (.lst []))) (hG : ∀ i H, i ≤ n → Pv i H → G H)
    (hs : ∀ i x H H', i < n → Pv i H → Y i H x H' → g x (wipe σ vs) H' fun σ2 H2 => wipe σ2 vs = wipe σ vs ∧ tt σ2 H2 fun b H3 =>
      if b = true then wi1 σ2 H3 fun J1 H4 => IN σ2 (Pv (i + 1)) J1 H4 else Pv (i + 1) H3) (hd : ∀ H, Pv n H → Qd H) :
    ∃ W : Nat → Nat → Hp → Prop, (∃ m, W 0 m (upd H1 D (.lst []))) ∧ ∀ i m H, W i m H →
      (J.stop i H ∧ Qd H) ∨ (J.go i H ∧ ∃ Nx : Hp → Prop, (∀ H', Nx H' → ∃ m', m' < m ∧ W (i + 1) m' H') ∧ ∀ x H', J.yld i H x H' → g x (wipe σ vs) H' fun σ2 H2 => wipe σ2 vs = wipe σ vs ∧ tt σ2 H2 fun b H3 =>
        if b = true then wi1 σ2 H3 fun J1 H4 => IN σ2 Nx J1 H4 else Nx H3) := by
  refine ⟨fun i m H => m = n - i ∧ i ≤ n ∧ Pv i H, ⟨n, by simp, Nat.zero_le _, h0⟩, ?_⟩
  rintro i m H ⟨rfl, hi, p⟩
  have q := hG i H hi p
  by_cases hlt : i < n
  · refine .inr ⟨w.goes i H hlt q, Pv (i + 1), fun H' p' => ⟨n - (i + 1), by omega, rfl, hlt, p'⟩, fun x H' y => hs i x H H' hlt p (w.yields i H x H' hlt q y)⟩
  · have e : i = n := by omega
    subst e
    exact .inl ⟨w.stops H q, hd H p⟩
theorem lc2_in (w : Walk J n G Y) {g1 : TG} {tt1 : TT} {te : TE} {vs1 : List Nat} {σ2 : L2.St} {H4 : Hp} {D : Addr} {Nx : Hp → Prop} (Pv : Nat → Hp → Prop) (h0 : Pv 0 H4) (hG : ∀ i H, i ≤ n → Pv i H → G H)
    (hs : ∀ j x H H', j < n → Pv j H → Y j H x H' → g1 x (wipe σ2 vs1) H' fun σ3 H5 => wipe σ3 vs1 = wipe σ2 vs1 ∧ tt1 σ3 H5 fun b H6 =>
      if b = true then te σ3 H6 fun y H7 => ∃ acc, H7 D = some (.lst acc) ∧ acc.length < sizeLine ∧ Pv (j + 1) (upd H7 D (.lst (acc ++ [y]))) else Pv (j + 1) H6) (hd : ∀ H, Pv n H → Nx H) :
    ∃ W1 : Nat → Nat → Hp → Prop, (∃ m, W1 0 m H4) ∧ ∀ j k H, W1 j k H →
      (J.stop j H ∧ Nx H) ∨ (J.go j H ∧ ∃ Nx1 : Hp → Prop, (∀ H', Nx1 H' → ∃ k', k' < k ∧ W1 (j + 1) k' H') ∧ ∀ x H', J.yld j H x H' → g1 x (wipe σ2 vs1) H' fun σ3 H5 => wipe σ3 vs1 = wipe σ2 vs1 ∧ tt1 σ3 H5 fun b H6 =>
        if b = true then te σ3 H6 fun y H7 => ∃ acc, H7 D = some (.lst acc) ∧ acc.length < sizeLine ∧ Nx1 (upd H7 D (.lst (acc ++ [y]))) else Nx1 H6) := by
  refine ⟨fun i m H => m = n - i ∧ i ≤ n ∧ Pv i H, ⟨n, by simp, Nat.zero_le _, h0⟩, ?_⟩
  rintro i m H ⟨rfl, hi, p⟩
  have q := hG i H hi p
  by_cases hlt : i < n
  · refine .inr ⟨w.goes i H hlt q, Pv (i + 1), fun H' p' => ⟨n - (i + 1), by omega, rfl, hlt, p'⟩, fun x H' y => hs i x H H' hlt p (w.yields i H x H' hlt q y)⟩
  · have e : i = n := by omega
    subst e
    exact .inl ⟨w.stops H q, hd H p⟩
end
end L3
namespace M23
open PySem PySem.Spec PyProof.Rows L2 L3
open PySem.W (dataLe dataLt keyToks keyToksAll alike)
open PyProof.Rows (itemOrd)
/-- a product as texts -/
def sS (p : Pd) : List Str := p.map tS
theorem sS_inj {p q : Pd} (h : sS p = sS q) : p = q := (List.map_inj_right (fun x y h => tS_inj h)).mp h
def dP (p : Pd) : PyData := dS (sS p)
def ple (a b : Pd) : Bool := dataLe false dP a b
theorem ple_eq (a b : Pd) : ple a b = !dataLt (dP b) (dP a) := rfl
theorem toks_inj : ∀ {k l : List Str}, keyToksAll (k.map .str) = keyToksAll (l.map .str) → k = l
  | [], [], _ => rfl
  | [], y :: l, h => by
    rw [List.map_cons, PySem.W.toks_all_cons, List.map_nil, keyToksAll] at h
    simp at h
  | x :: k, [], h => by
    rw [List.map_cons, PySem.W.toks_all_cons, List.map_nil, keyToksAll] at h
    simp at h
  | x :: k, y :: l, h => by
    rw [List.map_cons, List.map_cons, PySem.W.toks_all_cons, PySem.W.toks_all_cons] at h
    injection h with _ h
    have e : ∀ z : Str, keyToks (.str z) = [Sum.inr z.cps.toList] := fun z => by rw [keyToks]
    rw [e, e] at h
    injection h with h1 h2
    rw [toks_inj h2, PySem.W.str_of_cps (Sum.inr.inj h1)]
theorem ple_total (a b : Pd) : (ple a b || ple b a) = true := by
  rw [ple_eq, ple_eq]
  cases h1 : dataLt (dP b) (dP a) with
  | false => rfl
  | true =>
    cases h2 : dataLt (dP a) (dP b) with
    | false => rfl
    | true =>
      have := PyProof.Rows.lex_trans (O := itemOrd) _ _ _ h1 h2
      rw [PyProof.Rows.lex_irrefl] at this
      cases this
theorem ple_trans (a b c : Pd) (h1 : ple a b = true) (h2 : ple b c = true) : ple a c = true := by
  rw [ple_eq, Bool.not_eq_true'] at h1 h2 ⊢
  cases h : dataLt (dP c) (dP a) with
  | false => rfl
  | true =>
    rcases PyProof.Rows.lex_negTrans (O := itemOrd) _ (keyToks (dP b)) _ h with g | g
    · exact absurd (show dataLt (dP c) (dP b) = true from g) (by rw [h2]; decide)
    · exact absurd (show dataLt (dP b) (dP a) = true from g) (by rw [h1]; decide)
theorem ple_anti {a b : Pd} (h1 : ple a b = true) (h2 : ple b a = true) : a = b := by
  rw [ple_eq, Bool.not_eq_true'] at h1 h2
  have e : keyToks (dP a) = keyToks (dP b) := PyProof.Rows.lex_total (O := itemOrd) _ _ h2 h1
  refine sS_inj (toks_inj ?_)
  unfold dP dS at e
  simpa [keyToks] using e
theorem sorted_uniq {l m : List Pd} (p : l.Perm m) (h1 : l.Pairwise fun a b => ple a b = true) (h2 : m.Pairwise fun a b => ple a b = true) : l = m :=
  p.eq_of_pairwise (fun a b _ _ x y => ple_anti x y) h1 h2
theorem sorted_sort (l : List Pd) : (l.mergeSort ple).Pairwise fun a b => ple a b = true := List.pairwise_mergeSort ple_trans ple_total l
/-- each once -/
def ded : List Pd → List Pd
  | [] => []
  | x :: l => if x ∈ l then ded l else x :: ded l
theorem ded_mem {x : Pd} : ∀ {l : List Pd}, x ∈ ded l ↔ x ∈ l
  | [] => Iff.rfl
  | y :: l => by
    unfold ded
    split
    · rename_i h
      rw [ded_mem (l := l), List.mem_cons]
      exact ⟨.inr, fun z => z.elim (fun e => e ▸ h) id⟩
    · rw [List.mem_cons, List.mem_cons, ded_mem (l := l)]
theorem ded_nodup : ∀ l : List Pd, (ded l).Nodup
  | [] => List.nodup_nil
  | y :: l => by
    unfold ded
    split
    · exact ded_nodup l
    · rename_i h
      exact List.nodup_cons.mpr ⟨fun z => h (ded_mem.mp z), ded_nodup l⟩
/-- the members, each once, in order -/
def canon (S : List Pd) : List Pd := (ded S).mergeSort ple
theorem canon_mem {x : Pd} {S : List Pd} : x ∈ canon S ↔ x ∈ S := by unfold canon; rw [(List.mergeSort_perm _ _).mem_iff, ded_mem]
theorem canon_nodup (S : List Pd) : (canon S).Nodup := (List.mergeSort_perm _ _).nodup_iff.mpr (ded_nodup S)
theorem canon_sorted (S : List Pd) : (canon S).Pairwise fun a b => ple a b = true := sorted_sort _
theorem canon_uniq {S L : List Pd} (hn : L.Nodup) (hs : L.Pairwise fun a b => ple a b = true) (hm : ∀ x, x ∈ L ↔ x ∈ S) : L = canon S :=
  sorted_uniq ((List.perm_ext_iff_of_nodup hn (canon_nodup S)).mpr fun x => by rw [hm, canon_mem]) hs (canon_sorted S)
theorem ded_len : ∀ l : List Pd, (ded l).length ≤ l.length
  | [] => Nat.le_refl _
  | y :: l => by
    have := ded_len l
    unfold ded
    split
    · rw [List.length_cons]; omega
    · rw [List.length_cons, List.length_cons]; omega
theorem canon_len (S : List Pd) : (canon S).length ≤ S.length := by unfold canon; rw [List.length_mergeSort]; exact ded_len S
/-- what is kept of reduced products -/
def maxs (S : List Pd) : List Pd := (canon S).filter fun p => decide (∀ q ∈ canon S, q ≠ p → run q p = none)
def kept (ps : List Pd) : List Pd := maxs (ps.map redOf)
theorem none_iff {p q : Pd} : run q p = none ↔ ¬ Emb p q := by
  rw [← run_emb]
  cases run q p <;> simp
theorem maxs_mem {S : List Pd} {p : Pd} : p ∈ maxs S ↔ Max S p := by
  unfold maxs
  rw [List.mem_filter, decide_eq_true_iff, canon_mem]
  exact and_congr_right fun _ => ⟨fun h q hq hne => none_iff.mp (h q (canon_mem.mpr hq) hne), fun h q hq hne => none_iff.mpr (h q (canon_mem.mp hq) hne)⟩
end M23
namespace M23
def pbG : Pd → Nat → Pc → Option Nat
  | [], _, _ => none
  | y :: r, k, x => if holds y x then some (if isS y then k else k + 1) else pbG r (k + 1) x
/-- how far one is behind x -/
def pb (q : Pd) (i : Nat) (x : Pc) : Option Nat := pbG (q.drop i) i x
def runI (q : Pd) (i : Nat) : Pd → Option Nat
  | [] => some i
  | x :: p => (pb q i x).bind fun k => runI q k p
/-- as a number -/
def enc : Option Nat → Int
  | none => -1
  | some k => (k : Int)
theorem enc_lost : ∀ {a : Option Nat}, enc a = -1 ↔ a = none
  | none => ⟨fun _ => rfl, fun _ => rfl⟩
  | some k => ⟨fun h => by have h : (k : Int) = -1 := h; omega, fun h => by cases h⟩
theorem pbG_step {q : Pd} : ∀ {r : Pd} {k : Nat} {x : Pc}, q.drop k = r → step r x = (pbG r k x).map fun j => q.drop j
  | [], k, x, _ => rfl
  | y :: r, k, x, h => by
    have h2 : q.drop (k + 1) = r := by rw [← List.drop_drop, h]; rfl
    unfold step pbG
    split
    · split
      · rw [Option.map_some, h]
      · rw [Option.map_some, h2]
    · exact pbG_step h2
theorem step_pb (q : Pd) (i : Nat) (x : Pc) : step (q.drop i) x = (pb q i x).map fun j => q.drop j := pbG_step rfl
theorem run_runI (q : Pd) : ∀ (p : Pd) (i : Nat), run (q.drop i) p = (runI q i p).map fun j => q.drop j
  | [], i => rfl
  | x :: p, i => by
    show (step (q.drop i) x).bind _ = ((pb q i x).bind _).map _
    rw [step_pb]
    cases pb q i x with
    | none => rfl
    | some k => exact run_runI q p k
theorem runI_some {q p : Pd} : (runI q 0 p).isSome = true ↔ Emb p q := by
  rw [← run_emb]
  have := run_runI q p 0
  rw [List.drop_zero] at this
  rw [this, Option.isSome_map]
theorem pbG_le : ∀ {r : Pd} {k j : Nat} {x : Pc}, pbG r k x = some j → k ≤ j ∧ j ≤ k + r.length
  | [], _, _, _, h => by cases h
  | y :: r, k, j, x, h => by
    unfold pbG at h
    split at h
    · cases h
      rw [List.length_cons]
      split <;> omega
    · have := pbG_le h
      rw [List.length_cons]
      omega
theorem pb_le {q : Pd} {i j : Nat} {x : Pc} (h : pb q i x = some j) (hi : i ≤ q.length) : i ≤ j ∧ j ≤ q.length := by
  have := pbG_le h
  rw [List.length_drop] at this
  omega
theorem pb_none {q : Pd} {x : Pc} : ∀ (n i : Nat), q.length - i = n → (∀ j y, i ≤ j → q[j]? = some y → holds y x = false) → pb q i x = none
  | 0, i, hn, _ => by
    unfold pb
    rw [List.drop_of_length_le (by omega)]
    rfl
  | n + 1, i, hn, h => by
    have hi : i < q.length := by omega
    have e : q.drop i = q[i] :: q.drop (i + 1) := List.drop_eq_getElem_cons hi
    unfold pb
    rw [e]
    unfold pbG
    rw [h i q[i] (Nat.le_refl _) (List.getElem?_eq_getElem hi), if_neg (by decide)]
    exact pb_none n (i + 1) (by omega) fun j y hj hy => h j y (by omega) hy
theorem pb_found {q : Pd} {x y : Pc} {k : Nat} (hk : q[k]? = some y) (hh : holds y x = true) : ∀ (n i : Nat), k - i = n → i ≤ k → (∀ j y, i ≤ j → j < k → q[j]? = some y → holds y x = false) → pb q i x = some (if isS y then k else k + 1)
  | 0, i, hn, hi, _ => by
    obtain rfl : i = k := by omega
    have hl := (List.getElem?_eq_some_iff.mp hk)
    obtain ⟨hl, e1⟩ := hl
    have e : q.drop i = q[i] :: q.drop (i + 1) := List.drop_eq_getElem_cons hl
    unfold pb
    rw [e, e1]
    unfold pbG
    rw [if_pos hh]
  | n + 1, i, hn, hi, h => by
    obtain ⟨hl, _⟩ := List.getElem?_eq_some_iff.mp hk
    have hi' : i < q.length := by omega
    have e : q.drop i = q[i] :: q.drop (i + 1) := List.drop_eq_getElem_cons hi'
    have := pb_found hk hh n (i + 1) (by omega) (by omega) fun j y hj hjk hy => h j y (by omega) hjk hy
    unfold pb
    rw [e]
    unfold pbG
    rw [h i q[i] (Nat.le_refl _) (by omega) (List.getElem?_eq_getElem hi'), if_neg (by decide)]
    exact this
theorem runI_append (q : Pd) : ∀ (a : Pd) (i : Nat) (b : Pd), runI q i (a ++ b) = (runI q i a).bind fun k => runI q k b
  | [], _, _ => rfl
  | x :: a, i, b => by
    show (pb q i x).bind _ = ((pb q i x).bind _).bind _
    cases pb q i x with
    | none => rfl
    | some k => exact runI_append q a k b
theorem runI_le {q : Pd} : ∀ {p : Pd} {i j : Nat}, i ≤ q.length → runI q i p = some j → j ≤ q.length
  | [], i, j, h, e => by cases e; exact h
  | x :: p, i, j, h, e => by
    unfold runI at e
    cases hp : pb q i x with
    | none => rw [hp] at e; cases e
    | some k => rw [hp] at e; exact runI_le (pb_le hp h).2 e
/-- t is one of the texts of some of the products -/
def InS (ps : List Pd) (t : List Nat) : Prop := ∃ p ∈ ps, In p t
def AllOk (ps : List Pd) : Prop := ∀ p ∈ ps, ∀ x ∈ p, Ok x
theorem red_good {ps : List Pd} (h : AllOk ps) : ∀ p ∈ ps.map redOf, Good p := fun p hp => by
  obtain ⟨q, hq, rfl⟩ := List.mem_map.mp hp
  exact redOf_good (h q hq)
theorem inS_red {ps : List Pd} {t : List Nat} : InS (ps.map redOf) t ↔ InS ps t := by
  constructor
  · rintro ⟨p, hp, h⟩
    obtain ⟨q, hq, rfl⟩ := List.mem_map.mp hp
    exact ⟨q, hq, (eqv_in (redOf_eqv q) t).mpr h⟩
  · rintro ⟨p, hp, h⟩
    exact ⟨_, List.mem_map.mpr ⟨p, hp, rfl⟩, (eqv_in (redOf_eqv p) t).mp h⟩
theorem inS_maxs {S : List Pd} (h : ∀ p ∈ S, Good p) {t : List Nat} : InS (maxs S) t ↔ InS S t := by
  constructor
  · rintro ⟨p, hp, g⟩
    exact ⟨p, (maxs_mem.mp hp).1, g⟩
  · rintro ⟨p, hp, g⟩
    obtain ⟨k, k1, k2⟩ := max_sub h hp
    exact ⟨k, maxs_mem.mpr k1, g.up k2⟩
theorem inS_kept {ps : List Pd} (h : AllOk ps) {t : List Nat} : InS (kept ps) t ↔ InS ps t := (inS_maxs (red_good h)).trans inS_red
theorem kept_mem {ps : List Pd} {p : Pd} (h : p ∈ kept ps) : ∃ q ∈ ps, p = redOf q := by
  obtain ⟨q, hq, e⟩ := List.mem_map.mp (maxs_mem.mp h).1
  exact ⟨q, hq, e.symm⟩
theorem kept_len (ps : List Pd) : (kept ps).length ≤ ps.length := by
  have h1 := List.length_filter_le (fun p => decide (∀ q ∈ canon (ps.map redOf), q ≠ p → run q p = none)) (canon (ps.map redOf))
  have h2 := canon_len (ps.map redOf)
  rw [List.length_map] at h2
  exact Nat.le_trans h1 h2
theorem red_self {p : Pd} (h : Good p) : redOf p = p := redOf_uniq h.ok h.ok h.red (.refl p)
end M23
namespace Lw
open PySem PySem.Spec PyProof.Rows L3
open L2 hiding del del_same del_ne
def PcOk (sg : List Nat) (x : List Nat) : Prop := (∃ c ∈ sg, x = [c]) ∨ ∃ l : List Nat, l ≠ [] ∧ l.Pairwise (· < ·) ∧ (∀ c ∈ l, c ∈ sg) ∧ x = l ++ [42]
def PdOk (sg : List Nat) (p : M23.Pd) : Prop := ∀ x ∈ p, PcOk sg x
theorem Lets.no {sg : List Nat} (h : Lets sg) : 42 ∉ sg := fun z => by have := h.az 42 z; omega
theorem PcOk.ok {sg x : List Nat} (hl : Lets sg) (h : PcOk sg x) : M23.Ok x := by
  rcases h with ⟨c, hc, rfl⟩ | ⟨l, h1, h2, h3, rfl⟩
  · exact .inl ⟨c, fun e => hl.no (e ▸ hc), rfl⟩
  · exact .inr ⟨l, h1, h2, fun z => hl.no (h3 _ z), rfl⟩
theorem PdOk.ok {sg : List Nat} {p : M23.Pd} (hl : Lets sg) (h : PdOk sg p) : ∀ x ∈ p, M23.Ok x := fun x hx => (h x hx).ok hl
theorem PcOk.lts {sg x : List Nat} (hl : Lets sg) (h : PcOk sg x) : ∀ c ∈ M23.lt x, c ∈ sg := by
  rcases h with ⟨c, hc, rfl⟩ | ⟨l, h1, h2, h3, rfl⟩
  · rw [M23.lt_one fun e => hl.no (e ▸ hc)]
    intro d hd
    rw [List.mem_singleton.mp hd]
    exact hc
  · rw [M23.lt_star]; exact h3
theorem sub_lets {sg l : List Nat} (hl : Lets sg) (h2 : l.Pairwise (· < ·)) (h3 : ∀ c ∈ l, c ∈ sg) : l.length ≤ 3 :=
  Nat.le_trans (L2.nat_nodup_len l sg (h2.imp fun h => Nat.ne_of_lt h) h3) hl.few
theorem PcOk.len {sg x : List Nat} (hl : Lets sg) (h : PcOk sg x) : x.length ≤ 4 := by
  rcases h with ⟨c, hc, rfl⟩ | ⟨l, h1, h2, h3, rfl⟩
  · simp
  · have := sub_lets hl h2 h3
    rw [List.length_append]
    show l.length + 1 ≤ 4
    omega
theorem PcOk.up {sg x : List Nat} (hl : Lets sg) (h : PcOk sg x) : (M23.lt x).Pairwise (· < ·) ∧ M23.lt x ≠ [] ∧ (M23.lt x).length ≤ if M23.isS x then 3 else 1 := by
  rcases h with ⟨c, hc, rfl⟩ | ⟨l, h1, h2, h3, rfl⟩
  · have n : c ≠ 42 := fun e => hl.no (e ▸ hc)
    rw [M23.lt_one n, M23.isS_one n]
    exact ⟨List.pairwise_singleton _ _, by simp, by simp⟩
  · rw [M23.lt_star, M23.isS_star, if_pos rfl]
    exact ⟨h2, h1, sub_lets hl h2 h3⟩
theorem yes_tk {σ : L2.St} {H : Hp} {F N : Hp → Prop} (h : F H) : tYes σ H fun b H3 => if b = true then F H3 else N H3 := by
  show (if true = true then F H else N H)
  rw [if_pos rfl]
  exact h
theorem lt_len (x : List Nat) : (M23.lt x).length ≤ x.length := by
  unfold M23.lt
  split
  · rw [List.length_dropLast]; omega
  · exact Nat.le_refl _
theorem all_id_rep (n : Nat) : (List.replicate n true).all id = true := by
  induction n with
  | zero => rfl
  | succ n ih => rw [List.replicate_succ, List.all_cons, ih]; rfl
theorem last_one {x : List Nat} : decide (tx (x.drop (x.length - 1)) = V.str "*") = M23.isS x := by
  have e : (V.str "*") = tx [42] := by decide +kernel
  rw [e]
  unfold M23.isS
  have key : (tx (x.drop (x.length - 1)) = tx [42]) ↔ x.getLast? = some 42 := by
    refine Iff.trans ⟨tx_inj, congrArg tx⟩ ?_
    rcases List.eq_nil_or_concat x with rfl | ⟨l, a, rfl⟩
    · simp
    · simp
  by_cases h : x.getLast? = some 42
  · rw [decide_eq_true (key.mpr h), h]; rfl
  · rw [decide_eq_false fun z => h (key.mp z)]
    exact (beq_eq_false_iff_ne.mpr h).symm
section
variable {P : Program} {w : World} {K : PySem.W.Frag} {mg : Str → Option Value} {base : Heap}
def spIsStar : Sp := fun vs H Q _ => ∃ x, vs = [tx x] ∧ x.length ≤ 10000 ∧ Q (.bl (M23.isS x)) H
theorem ok_is_star (T : All K mg) : FnOk P w K mg base CX0 1 T.f_is_star T.d_is_star ["piece"] spIsStar := by
  refine T.is_star.F.ok sc_is_star (fun vs H Q E h => ?_) (fun cdv A outer s H vs Q E hr h => ?_)
  · obtain ⟨x, rfl, _⟩ := h
    rfl
  · obtain ⟨x, rfl, hz, q⟩ := h
    obtain ⟨t1, hSTAR⟩ := T.c_STAR
    refine ⟨_, pss_one (ps_ret (pe_cmpR op_eq (pe_slice sl_txN (pv 0) (po_some (pe_un un_neg pe_int)) po_none) (pe_glob (v := .str "*") rfl hSTAR ⟨_, rfl⟩) (by rfl))), ?_⟩
    refine ⟨_, rfl, 1, rfl, _, rfl, x, rfl, sz (by omega), .inr ⟨rfl, rfl, rfl, ?_⟩⟩
    rw [last_one]
    exact q
def spLettersIn : Sp := fun vs H Q _ => ∃ x, vs = [tx x] ∧ x.length ≤ 10000 ∧ Q (tx (M23.lt x)) H
theorem ok_letters_in (T : All K mg) : FnOk P w K mg base CX0 2 T.f_letters_in T.d_letters_in ["piece"] spLettersIn := by
  refine T.letters_in.F.ok sc_letters_in (fun vs H Q E h => ?_) (fun cdv A outer s H vs Q E hr h => ?_)
  · obtain ⟨x, rfl, _⟩ := h
    rfl
  · obtain ⟨x, rfl, hz, q⟩ := h
    refine ⟨_, pss_one (ps_ret (pe_ifExp (pt_val (pe_call (ok_is_star T) (hr.mono (by decide)) (by rfl) T.is_star.g T.is_star.F.kp T.is_star.b .nil pass0 (pa_cons (pv 0) pa_nil))) (pe_slice sl_txN (pv 0) po_none (po_some (pe_un un_neg pe_int))) (pv 0))), ?_⟩
    unfold M23.lt at q
    refine ⟨_, rfl, x, rfl, hz, _, rfl, ite2 (fun e => ?_) (fun e => ?_)⟩
    · rw [if_pos e] at q
      exact ⟨_, rfl, 1, rfl, _, rfl, x, rfl, sz (by omega), .inl ⟨rfl, rfl, q⟩⟩
    · rw [if_neg e] at q
      exact ⟨_, rfl, q⟩
def spRising : Sp := fun vs H Q _ => ∃ l, vs = [tx l] ∧ l.length ≤ 3 ∧ (∀ c ∈ l, 97 ≤ c ∧ c ≤ 122) ∧ l.Pairwise (· < ·) ∧ ∀ H', Same H H' → Q (.bl true) H'
theorem ok_are_rising (T : All K mg) : FnOk P w K mg base CX0 1 T.f_are_rising T.d_are_rising ["letters"] spRising := by
  refine T.are_rising.F.ok sc_are_rising (fun vs H Q E h => ?_) (fun cdv A outer s H vs Q E hr h => ?_)
  · obtain ⟨l, rfl, _⟩ := h
    rfl
  · obtain ⟨l, rfl, h3, haz, hup, q⟩ := h
    obtain ⟨t1, hSMALL_products⟩ := T.c_SMALL_products
    refine ⟨_, pss_cons (ps_if (pt_not (pt_val (pe_callB (cr_all rfl) (by rfl) T.b_all PyProof.Rows.boot_all (pa_cons (pe_lc (own := [("letter", 1)]) (g := gName 1) (tt := tYes) rfl sc_are_rising.nd (pi_str (pv 0))
          (blkOk_by (own := [("letter", 1)]) (N := ["letters", "letter", "at"]) (sc := defScope s_are_rising) (by decide +kernel))
          (fun _ _ _ _ _ => pg_name (i := 1) sc_are_rising.nd rfl (by first | exact Or.inl rfl | exact Or.inr rfl)) (fun _ _ _ _ _ => pts_nil)
          (fun _ _ _ _ _ => (pe_cmpR op_in_sign (pv 1) (pe_glob (v := .str "abcdefghijklmnopqrstuvwxyz") rfl hSMALL_products ⟨_, rfl⟩) (by rfl)))) pa_nil)))) (pss_one (ps_ret pe_bl)) pss_nil)
      (pss_one (ps_ret (pe_callB (cr_all rfl) (by rfl) T.b_all PyProof.Rows.boot_all (pa_cons (pe_lc (own := [("at", 2)]) (g := gName 2) (tt := tYes) rfl sc_are_rising.nd (pi_range1 rfl T.b_range (pa_cons (pe_op op_sub (pe_callB call_lenT (by rfl) T.b_len PySem.boot_len (pa_cons (pv 0) pa_nil)) pe_int) pa_nil))
          (blkOk_by (own := [("at", 2)]) (N := ["letters", "letter", "at"]) (sc := defScope s_are_rising) (by decide +kernel))
          (fun _ _ _ _ _ => pg_name (i := 2) sc_are_rising.nd rfl (by first | exact Or.inl rfl | exact Or.inr rfl)) (fun _ _ _ _ _ => pts_nil)
          (fun _ _ _ _ _ => (pe_cmpR op_lt_str (pe_ix ix_tx (pv 0) (pv 2) (fun _ _ => rfl)) (pe_ix ix_tx (pv 0) (pe_op op_add (pv 2) pe_int) (fun _ _ => rfl)) (by rfl)))) pa_nil)))), ?_⟩
    refine ⟨_, rfl, tS l, rfl, fun D nD => ?_⟩
    refine lc_gen walk_tx (Same H) (fun i acc => acc = List.replicate i (.bl true)) (sz (by omega)) (fun i acc e => by rw [e]; simp) rfl (same_upd nD) (fun _ _ h => same_up h nD) (fun _ _ => trivial) (fun i x H2 H3 acc C N hi r hD ha y c n => ?_) (fun H2 xs r hD ha => ?_)
    · obtain ⟨rfl, ch, hc, rfl⟩ := y
      refine ⟨rfl, yes_te ⟨_, rfl, ch, _, rfl, rfl, c _ _ r hD ?_⟩⟩
      rw [ha, List.replicate_succ', decide_eq_true (small_mem (haz ch (List.mem_of_getElem? hc)))]
    subst ha
    refine ⟨D, List.replicate _ true, rfl, .inl (.inl (by rw [hD, List.map_replicate])), _, rfl, ?_⟩
    rw [all_id_rep]
    refine iteF ?_
    dsimp only [tNext]
    refine ⟨_, rfl, l, rfl, sz (by omega), _, _, rfl, rfl, ?_⟩
    refine ⟨_, rfl, by omega, by omega, fun D2 nD2 => ?_⟩
    have nD3 := r.free nD2
    have r2 := same_up (o := .lst []) r nD3
    refine lc_gen walk_range (Same H) (fun i acc => acc = List.replicate i (.bl true)) (sz (by omega)) (fun i acc e => by rw [e]; simp) rfl r2 (fun _ _ h => same_up h nD3) (fun _ _ => trivial) (fun i x H4 H5 acc C N hi r' hD' ha y c n => ?_) (fun H4 xs r' hD' ha => ?_)
    · obtain ⟨rfl, rfl⟩ := y
      have hi1 : i + 1 < l.length := by omega
      have h1 := List.getElem?_eq_getElem (l := l) (i := i) (by omega)
      have h2 := List.getElem?_eq_getElem hi1
      refine ⟨rfl, yes_te ⟨_, rfl, _, rfl, l, i, _, rfl, congrArg V.int (Int.zero_add _), sz (by omega), h1, _, rfl, _, rfl, _, _, rfl, rfl, l, i + 1, _, rfl, congrArg V.int (by omega), sz (by omega), h2, _, _, rfl, rfl, c _ _ r' hD' ?_⟩⟩
      rw [ha, List.replicate_succ']
      have hlt := List.pairwise_iff_getElem.mp hup i (i + 1) (by omega) hi1 (by omega)
      have : decide ((tS [l[i]]).cps.toList < (tS [l[i + 1]]).cps.toList) = true := decide_eq_true (List.cons_lt_cons_iff.mpr (.inl hlt))
      rw [this]
    subst ha
    refine ⟨D2, List.replicate _ true, rfl, .inl (.inl (by rw [hD', List.map_replicate])), ?_⟩
    rw [all_id_rep]
    exact q _ r'
def spIsPiece : Sp := fun vs H Q _ => ∃ sg x, vs = [tx x] ∧ Lets sg ∧ PcOk sg x ∧ ∀ H', Same H H' → Q (.bl true) H'
theorem ok_is_piece (T : All K mg) : FnOk P w K mg base CX0 3 T.f_is_piece T.d_is_piece ["value"] spIsPiece := by
  refine T.is_piece.F.ok sc_is_piece (fun vs H Q E h => ?_) (fun cdv A outer s H vs Q E hr h => ?_)
  · obtain ⟨sg, x, rfl, _⟩ := h
    rfl
  · obtain ⟨sg, x, rfl, hl, hx, q⟩ := h
    obtain ⟨t1, hMOST_IN_STAR⟩ := T.c_MOST_IN_STAR
    have hz := hx.len hl
    obtain ⟨u1, u2, u3⟩ := hx.up hl
    have hin := hx.lts hl
    have h3 : (M23.lt x).length ≤ 3 := by
      split at u3 <;> omega
    refine ⟨_, pss_cons (ps_if (PW.pt (pw_or (pt_not (pt_val (pe_callB call_isi (by rfl) T.b_isinstance boot_isinstance (pa_cons (pv 0) (pa_cons (pe_bltn (v := .ty "str") (by rfl) T.b_str (by decide +kernel) rfl) pa_nil))))) (pw_or1 (pt_not (pt_val (pe_call (ok_are_rising T) (hr.mono (by decide)) (by rfl) T.are_rising.g T.are_rising.F.kp T.are_rising.b .nil pass0 (pa_cons (pe_call (ok_letters_in T) (hr.mono (by decide)) (by rfl) T.letters_in.g T.letters_in.F.kp T.letters_in.b .nil pass0 (pa_cons (pv 0) pa_nil)) pa_nil))))))) (pss_one (ps_ret pe_bl)) pss_nil)
      (pss_one (ps_ret (pe_chain op_le op_le pe_int (pe_callB call_lenT (by rfl) T.b_len PySem.boot_len (pa_cons (pe_call (ok_letters_in T) (hr.mono (by decide)) (by rfl) T.letters_in.g T.letters_in.F.kp T.letters_in.b .nil pass0 (pa_cons (pv 0) pa_nil)) pa_nil)) (pe_ifExp (pt_val (pe_call (ok_is_star T) (hr.mono (by decide)) (by rfl) T.is_star.g T.is_star.F.kp T.is_star.b .nil pass0 (pa_cons (pv 0) pa_nil))) (pe_glob (v := .int 3) rfl hMOST_IN_STAR ⟨_, rfl⟩) pe_int)))), ?_⟩
    refine ⟨tx x, rfl, tx x, .ty "str", .type "str", .type "str", true, rfl, .ty _, .base (.str _), kit_ty (by decide +kernel), true, rfl, iteF ?_⟩
    refine ⟨_, rfl, x, rfl, by omega, M23.lt x, rfl, h3, fun c hc => hl.az c (hin c hc), u1, fun H1 s1 => ⟨true, rfl, iteF ?_⟩⟩
    dsimp only [tNext]
    refine ⟨_, rfl, x, rfl, by omega, M23.lt x, rfl, sz (by omega), _, _, rfl, rfl, _, rfl, ?_⟩
    have hpos : 1 ≤ (M23.lt x).length := List.length_pos_iff.mpr u2
    refine ite_t (decide_eq_true (by omega)) ⟨_, rfl, x, rfl, by omega, _, rfl, ite2 (fun e => ?_) (fun e => ?_)⟩
    · rw [if_pos e] at u3
      refine ⟨_, _, rfl, rfl, ?_⟩
      show Q (.bl (decide (((M23.lt x).length : Int) ≤ 3))) H1
      rw [decide_eq_true (show ((M23.lt x).length : Int) ≤ 3 by omega)]
      exact q _ s1
    · rw [if_neg e] at u3
      refine ⟨_, _, rfl, rfl, ?_⟩
      show Q (.bl (decide (((M23.lt x).length : Int) ≤ 1))) H1
      rw [decide_eq_true (show ((M23.lt x).length : Int) ≤ 1 by omega)]
      exact q _ s1
theorem dp_txs_eq {H : Hp} : ∀ {p : M23.Pd} {xs : List V}, DpAll K H xs ((M23.sS p).map PyData.str) → xs = p.map tx
  | [], _, .nil => rfl
  | x :: p, _, .cons h1 h2 => by
    rw [dp_txs_eq h2, dp_str h1]
    rfl
theorem dp_pd {H : Hp} {v : V} {p : M23.Pd} (h : Dp K H v (M23.dP p)) : ∃ a, v = .ref a ∧ SqT K H a (p.map tx) := by
  obtain ⟨a, xs, rfl, hs, ha⟩ := dp_tuple h
  refine ⟨a, rfl, ?_⟩
  rw [← dp_txs_eq ha]
  exact hs
def spIsProduct (K : PySem.W.Frag) : Sp := fun vs H Q _ => ∃ sg v p, vs = [v] ∧ Lets sg ∧ PdOk sg p ∧ p.length ≤ 1000 ∧ Dp K H v (M23.dP p) ∧ ∀ H', Same H H' → Q (.bl true) H'
theorem ok_is_product (T : All K mg) : FnOk P w K mg base CX0 4 T.f_is_product T.d_is_product ["value"] (spIsProduct K) := by
  refine T.is_product.F.ok sc_is_product (fun vs H Q E h => ?_) (fun cdv A outer s H vs Q E hr h => ?_)
  · obtain ⟨sg, v, p, rfl, _⟩ := h
    rfl
  · obtain ⟨sg, v, p, rfl, hl, hp, hz, hd, q⟩ := h
    obtain ⟨a, rfl, hs⟩ := dp_pd hd
    refine ⟨_, pss_one (ps_ret (pe_and (pe_callB call_isi (by rfl) T.b_isinstance boot_isinstance (pa_cons (pv 0) (pa_cons (pe_bltn (v := .ty "tuple") (by rfl) T.b_tuple (by decide +kernel) rfl) pa_nil)))
        (pe_one (pe_callB (cr_all rfl) (by rfl) T.b_all PyProof.Rows.boot_all (pa_cons (pe_lc (own := [("piece", 1)]) (g := gName 1) (tt := tYes) rfl sc_is_product.nd (pi_tup (pv 0))
          (blkOk_by (own := [("piece", 1)]) (N := ["value", "piece"]) (sc := defScope s_is_product) (by decide +kernel))
          (fun _ _ _ _ _ => pg_name (i := 1) sc_is_product.nd rfl (by first | exact Or.inl rfl | exact Or.inr rfl)) (fun _ _ _ _ _ => pts_nil)
          (fun _ _ _ _ _ => (pe_call (ok_is_piece T) (hr.mono (by decide)) (by rfl) T.is_piece.g T.is_piece.F.kp T.is_piece.b .nil pass0 (pa_cons (pv 1) pa_nil)))) pa_nil))))), ?_⟩
    refine ⟨_, rfl, .ref a, .ty "tuple", .type "tuple", .type "tuple", true, rfl, .ty _, ty_tuple hs, kit_ty (by decide +kernel), true, rfl, ite_t rfl ?_⟩
    refine ⟨_, rfl, a, rfl, ⟨_, hs⟩, fun D nD => ?_⟩
    refine lc_gen (walk_tup (xs := p.map tx)) (Same H) (fun i acc => acc = List.replicate i (.bl true)) (sz (by rw [List.length_map]; omega)) (fun i acc e => by rw [e]; simp) rfl (same_upd nD) (fun _ _ h => same_up h nD) (fun _ h => sqT_same hs h) (fun i x H2 H3 acc C N hi r hD ha y c n => ?_) (fun H2 xs r hD ha => ?_)
    · obtain ⟨rfl, y⟩ := y
      rw [List.getElem?_map] at y
      obtain ⟨u, hu, rfl⟩ := Option.map_eq_some_iff.mp y
      refine ⟨rfl, yes_te ⟨_, rfl, sg, u, rfl, hl, hp u (List.mem_of_getElem? hu), fun H4 s4 => c _ _ (r.trans s4) (s4 _ _ hD) ?_⟩⟩
      rw [ha, List.replicate_succ']
    subst ha
    refine ⟨D, List.replicate _ true, rfl, .inl (.inl (by rw [hD, List.map_replicate])), ?_⟩
    rw [all_id_rep]
    exact q _ r
def spProductOver (K : PySem.W.Frag) : Sp := fun vs H Q _ => ∃ sg v p, vs = [tx sg, v] ∧ Lets sg ∧ PdOk sg p ∧ p.length ≤ 1000 ∧ Dp K H v (M23.dP p) ∧ ∀ H', Same H H' → Q (.bl true) H'
theorem ok_is_product_over (T : All K mg) : FnOk P w K mg base CX0 5 T.f_is_product_over T.d_is_product_over ["letters", "value"] (spProductOver K) := by
  refine T.is_product_over.F.ok sc_is_product_over (fun vs H Q E h => ?_) (fun cdv A outer s H vs Q E hr h => ?_)
  · obtain ⟨sg, v, p, rfl, _⟩ := h
    rfl
  · obtain ⟨sg, v, p, rfl, hl, hp, hz, hd, q⟩ := h
    refine ⟨_, pss_one (ps_ret (pe_and (pe_call (ok_is_product T) (hr.mono (by decide)) (by rfl) T.is_product.g T.is_product.F.kp T.is_product.b .nil pass0 (pa_cons (pv 1) pa_nil))
        (pe_one (pe_callB (cr_all rfl) (by rfl) T.b_all PyProof.Rows.boot_all (pa_cons (pe_lc2 (own := [("piece", 2), ("letter", 3)]) (vs1 := [3]) (g := gName 2) (g1 := gName 3) (tt := tYes) (tt1 := tYes) rfl sc_is_product_over.nd (pi_tup (pv 1))
          (blkOk_by (own := [("piece", 2), ("letter", 3)]) (N := ["letters", "value", "piece", "letter"]) (sc := defScope s_is_product_over) (by decide +kernel)) (by decide)
          (fun _ _ _ _ _ => (pg_name (i := 2) sc_is_product_over.nd rfl (by first | exact Or.inl rfl | exact Or.inr rfl))) (fun _ _ _ _ _ => pts_nil)
          (fun _ _ _ _ _ => (pi_str (pe_call (ok_letters_in T) (hr.mono (by decide)) (by rfl) T.letters_in.g T.letters_in.F.kp T.letters_in.b .nil pass0 (pa_cons (pv 2) pa_nil)))) (fun _ _ _ _ _ => (pg_name (i := 3) sc_is_product_over.nd rfl (by first | exact Or.inl rfl | exact Or.inr rfl))) (fun _ _ _ _ _ => pts_nil)
          (fun _ _ _ _ _ => (pe_cmpR op_in_sign (pv 3) (pv 0) (by rfl)))) pa_nil))))), ?_⟩
    refine ⟨_, rfl, sg, v, p, rfl, hl, hp, hz, hd, fun H1 s1 => ⟨true, rfl, ite_t rfl ?_⟩⟩
    obtain ⟨a, rfl, hs⟩ := dp_pd (Dp.same s1 hd)
    refine ⟨_, rfl, a, rfl, ⟨_, hs⟩, fun D nD => ?_⟩
    refine lc2_it (walk_tup (xs := p.map tx)) (fun j H' => Same H1 H' ∧ ∃ m, m ≤ 4 * j ∧ H' D = some (.lst (List.replicate m (.bl true)))) ⟨same_upd nD, 0, Nat.le_refl _, upd_same⟩ (fun j H' _ x => sqT_same hs x.1) (fun j x H3 H4 hj r3 y => ?_) (fun H3 r3 => ?_)
    · obtain ⟨rfl, y⟩ := y
      obtain ⟨s3, m, hm, hD⟩ := r3
      rw [List.getElem?_map] at y
      obtain ⟨u, hu, rfl⟩ := Option.map_eq_some_iff.mp y
      have hux := hp u (List.mem_of_getElem? hu)
      have hul := hux.len hl
      have hlt := hux.lts hl
      have hll : (M23.lt u).length ≤ 4 := by
        have := (hux.up hl).2.2
        split at this <;> omega
      rw [List.length_map] at hj
      refine ⟨rfl, yes_tk ?_⟩
      refine ⟨_, rfl, u, rfl, by omega, tS (M23.lt u), rfl, ?_⟩
      refine lc2_in walk_tx (fun k H' => Same H1 H' ∧ ∃ m, m ≤ 4 * j + k ∧ H' D = some (.lst (List.replicate m (.bl true)))) ⟨s3, m, by omega, hD⟩ (fun _ _ _ _ => trivial) (fun k x H5 H6 hk r5 y2 => ?_) (fun H5 r5 => ?_)
      · obtain ⟨rfl, ch, hch, rfl⟩ := y2
        obtain ⟨s5, m5, hm5, hD5⟩ := r5
        refine ⟨rfl, yes_te ⟨_, rfl, _, rfl, ch, _, rfl, rfl, _, hD5, by rw [List.length_replicate]; exact Nat.lt_of_lt_of_le (by omega : m5 < 100000) (sz (Nat.le_refl _)), same_up s5 nD, m5 + 1, by omega, ?_⟩⟩
        rw [upd_same, decide_eq_true (hlt ch (List.mem_of_getElem? hch)), ← List.replicate_succ']
      · obtain ⟨s5, m5, hm5, hD5⟩ := r5
        exact ⟨s5, m5, by omega, hD5⟩
    · obtain ⟨s3, m, hm, hD⟩ := r3
      refine ⟨D, List.replicate _ true, rfl, .inl (.inl (by rw [hD, List.map_replicate])), ?_⟩
      rw [all_id_rep]
      exact q _ (s1.trans s3)
def spHolds : Sp := fun vs H Q _ => ∃ y x, vs = [tx y, tx x] ∧ y.length ≤ 10 ∧ x.length ≤ 10 ∧ ∀ H', Same H H' → Q (.bl (M23.holds y x)) H'
theorem ok_holds (T : All K mg) : FnOk P w K mg base CX0 3 T.f_holds T.d_holds ["piece", "other"] spHolds := by
  refine T.holds.F.ok sc_holds (fun vs H Q E h => ?_) (fun cdv A outer s H vs Q E hr h => ?_)
  · obtain ⟨y, x, rfl, _⟩ := h
    rfl
  · obtain ⟨y, x, rfl, hy, hx, q⟩ := h
    refine ⟨_, pss_cons (ps_if (pt_val (pe_call (ok_is_star T) (hr.mono (by decide)) (by rfl) T.is_star.g T.is_star.F.kp T.is_star.b .nil pass0 (pa_cons (pv 0) pa_nil))) (pss_one (ps_ret (pe_callB (cr_all rfl) (by rfl) T.b_all PyProof.Rows.boot_all (pa_cons (pe_lc (own := [("letter", 2)]) (g := gName 2) (tt := tYes) rfl sc_holds.nd (pi_str (pe_call (ok_letters_in T) (hr.mono (by decide)) (by rfl) T.letters_in.g T.letters_in.F.kp T.letters_in.b .nil pass0 (pa_cons (pv 1) pa_nil)))
          (blkOk_by (own := [("letter", 2)]) (N := ["piece", "other", "letter"]) (sc := defScope s_holds) (by decide +kernel))
          (fun _ _ _ _ _ => pg_name (i := 2) sc_holds.nd rfl (by first | exact Or.inl rfl | exact Or.inr rfl)) (fun _ _ _ _ _ => pts_nil)
          (fun _ _ _ _ _ => (pe_cmpR op_in_sign (pv 2) (pe_call (ok_letters_in T) (hr.mono (by decide)) (by rfl) T.letters_in.g T.letters_in.F.kp T.letters_in.b .nil pass0 (pa_cons (pv 0) pa_nil)) (by rfl)))) pa_nil)))) pss_nil)
      (pss_one (ps_ret (pe_cmpR op_eq (pv 0) (pv 1) (by rfl)))), ?_⟩
    have hlx : (M23.lt x).length ≤ 10 := Nat.le_trans (lt_len x) hx
    have hly : (M23.lt y).length ≤ 10 := Nat.le_trans (lt_len y) hy
    refine ⟨_, rfl, y, rfl, by omega, M23.isS y, rfl, ite2 (fun e => ?_) (fun e => ?_)⟩
    · refine ⟨_, rfl, x, rfl, by omega, tS (M23.lt x), rfl, fun D nD => ?_⟩
      refine lc_gen walk_tx (Same H) (fun i acc => acc = ((M23.lt x).take i).map fun c => V.bl (decide (c ∈ M23.lt y))) (sz (by omega)) (fun i acc e => by rw [e]; simp; omega) rfl (same_upd nD) (fun _ _ h => same_up h nD) (fun _ _ => trivial) (fun i u H2 H3 acc C N hi r hD ha yy c n => ?_) (fun H2 xs r hD ha => ?_)
      · obtain ⟨rfl, ch, hc, rfl⟩ := yy
        refine ⟨rfl, yes_te ⟨_, rfl, _, rfl, y, rfl, by omega, ch, _, rfl, rfl, c _ _ r hD ?_⟩⟩
        rw [ha, List.take_add_one, hc, List.map_append]
        rfl
      subst ha
      rw [List.take_length] at hD
      refine ⟨D, (M23.lt x).map fun c => decide (c ∈ M23.lt y), rfl, .inl (.inl (by rw [hD, List.map_map]; rfl)), ?_⟩
      have ee : ((M23.lt x).map fun c => decide (c ∈ M23.lt y)).all id = M23.holds y x := by
        unfold M23.holds
        rw [if_pos e, List.all_map]
        rfl
      rw [ee]
      exact q _ r
    · dsimp only [tNext]
      refine ⟨_, rfl, _, rfl, rfl, ?_⟩
      have ee : decide (tx y = tx x) = M23.holds y x := by
        unfold M23.holds
        rw [if_neg e]
        exact decide_eq_decide.mpr ⟨tx_inj, congrArg tx⟩
      rw [ee]
      exact q _ (Same.refl _)
def spBehind (K : PySem.W.Frag) : Sp := fun vs H Q _ => ∃ v p i x, vs = [v, .int (i : Nat), tx x] ∧ Dp K H v (M23.dP p) ∧ i ≤ p.length ∧ p.length ≤ 1000 ∧ (∀ y ∈ p, y.length ≤ 10) ∧ x.length ≤ 10 ∧ ∀ H', Same H H' → Q (.int (M23.enc (M23.pb p i x))) H'
theorem ok_place_behind (T : All K mg) : FnOk P w K mg base CX0 4 T.f_place_behind T.d_place_behind ["product", "place", "piece"] (spBehind K) := by
  refine T.place_behind.F.ok sc_place_behind (fun vs H Q E h => ?_) (fun cdv A outer s H vs Q E hr h => ?_)
  · obtain ⟨v, p, i, x, rfl, _⟩ := h
    rfl
  · obtain ⟨v, p, i, x, rfl, hd, hi, hz, hyl, hx, q⟩ := h
    obtain ⟨t1, hLOST⟩ := T.c_LOST
    obtain ⟨a, rfl, hs⟩ := dp_pd hd
    refine ⟨_, pss_cons (ps_for PassesOwn.never rfl (pi_range2 rfl T.b_range (pa_cons (pv 1) (pa_cons (pe_callB call_len_seq (by rfl) T.b_len PySem.boot_len (pa_cons (pv 0) pa_nil)) pa_nil))) (pg_name (i := 3) sc_place_behind.nd rfl (by first | exact Or.inl rfl | exact Or.inr rfl))
        (pss_one (ps_if (pt_val (pe_call (ok_holds T) (hr.mono (by decide)) (by rfl) T.holds.g T.holds.F.kp T.holds.b .nil pass0 (pa_cons (pe_ix ix_tup (pv 0) (pv 3) (fun _ _ => rfl)) (pa_cons (pv 2) pa_nil)))) (pss_one (ps_ret (pe_ifExp (pt_val (pe_call (ok_is_star T) (hr.mono (by decide)) (by rfl) T.is_star.g T.is_star.F.kp T.is_star.b .nil pass0 (pa_cons (pe_ix ix_tup (pv 0) (pv 3) (fun _ _ => rfl)) pa_nil))) (pv 3) (pe_op op_add (pv 3) pe_int)))) pss_nil)))
      (pss_one (ps_ret (pe_glob (v := .int (-1)) rfl hLOST ⟨_, rfl⟩))), ?_⟩
    dsimp only [cxOf]
    have hlp : (p.map tx).length = p.length := List.length_map ..
    refine ⟨_, rfl, _, rfl, a, _, rfl, .inr hs, _, _, rfl, ⟨by omega, by omega, by omega, by omega⟩, ?_⟩
    refine for_it walk_range (fun k σ H' => ∃ g, σ = [some (.ref a), some (.int (i : Nat)), some (tx x), g] ∧ Same H H' ∧ ∀ j y, i ≤ j → j < i + k → p[j]? = some y → M23.holds y x = false) ⟨none, rfl, Same.refl _, fun j y h1 h2 _ => by omega⟩ (fun _ _ _ _ _ => trivial) (fun k v σ Ha Hb hk pp yy => ?_) (fun σ Hc pp => ?_)
    · obtain ⟨g, rfl, sa, hno⟩ := pp
      obtain ⟨rfl, rfl⟩ := yy
      have hkp : i + k < p.length := by omega
      have ek : ((i : Int) + (k : Int)) = ((i + k : Nat) : Int) := by omega
      have hy := List.getElem?_eq_getElem hkp
      have hat : ∀ y, p[i + k]? = some y → atI (p.map tx) ((i : Int) + (k : Int)) = some (tx y) := fun y e => by
        rw [ek]
        exact atI_nat (by rw [List.getElem?_map, e]; rfl)
      generalize p[i + k] = y at hy
      have hylen := hyl y (List.mem_of_getElem? hy)
      have hsa := sqT_same hs sa
      refine ⟨_, rfl, _, rfl, a, _, _, tx y, rfl, rfl, hsa, hat y hy, _, rfl, y, x, rfl, hylen, hx, fun H2 s2 => ⟨_, rfl, ite2 (fun e => ?_) (fun e => ?_)⟩⟩
      · have hsb := sqT_same hs (sa.trans s2)
        have fin := M23.pb_found hy e (i + k - i) i rfl (by omega) hno
        refine ⟨_, rfl, _, rfl, a, _, _, tx y, rfl, rfl, hsb, hat y hy, y, rfl, by omega, _, rfl, ite2 (fun e2 => ?_) (fun e2 => ?_)⟩
        · rw [fin, if_pos e2] at q
          refine ⟨_, rfl, ?_⟩
          show Q (.int ((i : Int) + (k : Int))) H2
          rw [ek]
          exact q _ (sa.trans s2)
        · rw [fin, if_neg e2] at q
          refine ⟨_, rfl, _, _, rfl, rfl, ?_⟩
          show Q (.int ((i : Int) + (k : Int) + 1)) H2
          rw [ek]
          exact q _ (sa.trans s2)
      · dsimp only [tNext]
        refine ⟨_, rfl, sa.trans s2, fun j y' h1 h2 h3 => ?_⟩
        by_cases hj : j = i + k
        · subst hj
          rw [hy] at h3
          cases h3
          exact Bool.eq_false_iff.mpr e
        · exact hno j y' h1 (by omega) h3
    · obtain ⟨g, rfl, sa, hno⟩ := pp
      have fin := M23.pb_none (x := x) (q := p) (p.length - i) i rfl fun j y h1 h2 => by
        have := (List.getElem?_eq_some_iff.mp h2).1
        exact hno j y h1 (by omega) h2
      rw [fin] at q
      exact q _ sa
end
end Lw
namespace Lw
open PySem PySem.Spec PyProof.Rows L3
open L2 hiding del del_same del_ne
section
variable {P : Program} {w : World} {K : PySem.W.Frag} {mg : Str → Option Value} {base : Heap}
def runO (p : M23.Pd) (o : Option Nat) (q : M23.Pd) : Option Nat := o.bind fun i => M23.runI p i q
theorem runO_snoc (p : M23.Pd) (o : Option Nat) (q : M23.Pd) (x : M23.Pc) : runO p o (q ++ [x]) = (runO p o q).bind fun i => M23.pb p i x := by
  unfold runO
  cases o with
  | none => rfl
  | some i =>
    show M23.runI p i (q ++ [x]) = (M23.runI p i q).bind _
    rw [M23.runI_append]
    cases M23.runI p i q with
    | none => rfl
    | some k =>
      show (M23.pb p k x).bind _ = M23.pb p k x
      cases M23.pb p k x <;> rfl
theorem runO_le {p : M23.Pd} {o : Option Nat} {q : M23.Pd} {k : Nat} (h : ∀ i, o = some i → i ≤ p.length) (e : runO p o q = some k) : k ≤ p.length := by
  unfold runO at e
  cases o with
  | none => cases e
  | some i => exact M23.runI_le (h i rfl) e
def spPlaceBy (K : PySem.W.Frag) : Sp := fun vs H Q _ => ∃ v u p o q, vs = [v, .int (M23.enc o), u] ∧ Dp K H v (M23.dP p) ∧ (∀ i, o = some i → i ≤ p.length) ∧ p.length ≤ 1000 ∧ (∀ y ∈ p, y.length ≤ 10) ∧ q.length ≤ 2000 ∧ (∀ y ∈ q, y.length ≤ 10) ∧ Dp K H u (M23.dP q) ∧ ∀ H', Same H H' → Q (.int (M23.enc (runO p o q))) H'
theorem ok_place_byP (T : All K mg) : FnOk P w K mg base CX0 5 T.f_place_by T.d_place_by ["product", "place", "pieces"] (spPlaceBy K) := by
  refine T.place_by.F.ok sc_place_by (fun vs H Q E h => ?_) (fun cdv A outer s H vs Q E hr h => ?_)
  · obtain ⟨v, u, p, o, q, rfl, _⟩ := h
    rfl
  · obtain ⟨v, u, p, o, q, rfl, hd, ho, hz, hyl, hqz, hql, hu, k⟩ := h
    obtain ⟨t1, hLOST⟩ := T.c_LOST
    obtain ⟨a, rfl, hs⟩ := dp_pd hd
    obtain ⟨b, rfl, hb⟩ := dp_pd hu
    refine ⟨_, pss_cons (ps_for PassesOwn.never rfl (pi_tup (pv 2)) (pg_name (i := 3) sc_place_by.nd rfl (by first | exact Or.inl rfl | exact Or.inr rfl))
        (pss_one (ps_if (pt_cmpR op_ne (pv 1) (pe_glob (v := .int (-1)) rfl hLOST ⟨_, rfl⟩) (nomark _)) (pss_one (ps_set (i := 1) sc_place_by.nd rfl (by first | exact Or.inl rfl | exact Or.inr rfl) (pe_call (ok_place_behind T) (hr.mono (by decide)) (by rfl) T.place_behind.g T.place_behind.F.kp T.place_behind.b .nil pass0 (pa_cons (pv 0) (pa_cons (pv 1) (pa_cons (pv 3) pa_nil)))))) pss_nil)))
      (pss_one (ps_ret (pv 1))), ?_⟩
    dsimp only [cxOf]
    refine ⟨_, rfl, b, rfl, ⟨_, hb⟩, ?_⟩
    refine for_it (walk_tup (xs := q.map tx)) (fun i σ H' => ∃ g, σ = [some (.ref a), some (.int (M23.enc (runO p o (q.take i)))), some (.ref b), g] ∧ Same H H') ⟨none, by cases o <;> rfl, Same.refl _⟩ (fun i σ H' _ pp => by obtain ⟨_, _, e⟩ := pp; exact sqT_same hb e) (fun i v σ Ha Hb hi pp yy => ?_) (fun σ Hc pp => ?_)
    · obtain ⟨g, rfl, sa⟩ := pp
      obtain ⟨rfl, hv⟩ := yy
      rw [List.getElem?_map] at hv
      obtain ⟨x, hx, rfl⟩ := Option.map_eq_some_iff.mp hv
      have tk : q.take (i + 1) = q.take i ++ [x] := by rw [List.take_add_one, hx]; rfl
      have le := fun k (e : runO p o (q.take i) = some k) => runO_le ho e
      have sn := runO_snoc p o (q.take i) x
      rw [← tk] at sn
      generalize runO p o (q.take i) = z at *
      cases z with
      | none =>
        refine ⟨_, rfl, rfl, _, rfl, ?_⟩
        refine ite_f (by decide) ?_
        dsimp only [tNext]
        rw [sn]
        exact ⟨_, rfl, sa⟩
      | some j =>
        have hne : (!decide (V.int (M23.enc (some j)) = V.int (-1))) = true := by
          rw [Bool.not_eq_true', decide_eq_false_iff_not]
          intro e
          have := M23.enc_lost.mp (V.int.inj e)
          cases this
        refine ⟨_, rfl, rfl, _, rfl, ite_t hne ?_⟩
        refine ⟨_, rfl, _, rfl, _, rfl, .ref a, p, j, x, rfl, Dp.same sa hd, le j rfl, hz, hyl, hql x (List.mem_of_getElem? hx), fun H2 s2 => ?_⟩
        dsimp only [gName]
        rw [sn]
        exact ⟨_, rfl, sa.trans s2⟩
    · obtain ⟨g, rfl, sa⟩ := pp
      rw [List.length_map, List.take_length]
      exact ⟨_, rfl, k _ sa⟩
def spPlaceByT (K : PySem.W.Frag) : Sp := fun vs H Q _ => ∃ v t p o, vs = [v, .int (M23.enc o), tx t] ∧ Dp K H v (M23.dP p) ∧ (∀ i, o = some i → i ≤ p.length) ∧ p.length ≤ 1000 ∧ (∀ y ∈ p, y.length ≤ 10) ∧ t.length ≤ 2000 ∧ ∀ H', Same H H' → Q (.int (M23.enc (runO p o (M23.tP t)))) H'
theorem ok_place_byT (T : All K mg) : FnOk P w K mg base CX0 5 T.f_place_by T.d_place_by ["product", "place", "pieces"] (spPlaceByT K) := by
  refine T.place_by.F.ok sc_place_by (fun vs H Q E h => ?_) (fun cdv A outer s H vs Q E hr h => ?_)
  · obtain ⟨v, t, p, o, rfl, _⟩ := h
    rfl
  · obtain ⟨v, t, p, o, rfl, hd, ho, hz, hyl, hqz, k⟩ := h
    obtain ⟨t1, hLOST⟩ := T.c_LOST
    obtain ⟨a, rfl, hs⟩ := dp_pd hd
    refine ⟨_, pss_cons (ps_for PassesOwn.never rfl (pi_str (pv 2)) (pg_name (i := 3) sc_place_by.nd rfl (by first | exact Or.inl rfl | exact Or.inr rfl))
        (pss_one (ps_if (pt_cmpR op_ne (pv 1) (pe_glob (v := .int (-1)) rfl hLOST ⟨_, rfl⟩) (nomark _)) (pss_one (ps_set (i := 1) sc_place_by.nd rfl (by first | exact Or.inl rfl | exact Or.inr rfl) (pe_call (ok_place_behind T) (hr.mono (by decide)) (by rfl) T.place_behind.g T.place_behind.F.kp T.place_behind.b .nil pass0 (pa_cons (pv 0) (pa_cons (pv 1) (pa_cons (pv 3) pa_nil)))))) pss_nil)))
      (pss_one (ps_ret (pv 1))), ?_⟩
    refine ⟨_, rfl, tS t, rfl, ?_⟩
    refine for_it walk_tx (fun i σ H' => ∃ g, σ = [some (.ref a), some (.int (M23.enc (runO p o ((M23.tP t).take i)))), some (tx t), g] ∧ Same H H') ⟨none, by cases o <;> rfl, Same.refl _⟩ (fun _ _ _ _ _ => trivial) (fun i v σ Ha Hb hi pp yy => ?_) (fun σ Hc pp => ?_)
    · obtain ⟨g, rfl, sa⟩ := pp
      obtain ⟨rfl, c, hc, rfl⟩ := yy
      have tk : (M23.tP t).take (i + 1) = (M23.tP t).take i ++ [[c]] := by
        rw [List.take_add_one]
        unfold M23.tP
        rw [List.getElem?_map, hc]
        rfl
      have le := fun k (e : runO p o ((M23.tP t).take i) = some k) => runO_le ho e
      have sn := runO_snoc p o ((M23.tP t).take i) [c]
      rw [← tk] at sn
      generalize runO p o ((M23.tP t).take i) = z at *
      cases z with
      | none =>
        refine ⟨_, rfl, rfl, _, rfl, ?_⟩
        refine ite_f (by decide) ?_
        dsimp only [tNext]
        rw [sn]
        exact ⟨_, rfl, sa⟩
      | some j =>
        have hne : (!decide (V.int (M23.enc (some j)) = V.int (-1))) = true := by
          rw [Bool.not_eq_true', decide_eq_false_iff_not]
          intro e
          have := M23.enc_lost.mp (V.int.inj e)
          cases this
        refine ⟨_, rfl, rfl, _, rfl, ite_t hne ?_⟩
        refine ⟨_, rfl, _, rfl, _, rfl, .ref a, p, j, [c], rfl, Dp.same sa hd, le j rfl, hz, hyl, by simp, fun H2 s2 => ?_⟩
        dsimp only [gName]
        rw [sn]
        exact ⟨_, rfl, sa.trans s2⟩
    · obtain ⟨g, rfl, sa⟩ := pp
      have e : (M23.tP t).take t.length = M23.tP t := List.take_of_length_le (by unfold M23.tP; rw [List.length_map]; exact Nat.le_refl _)
      rw [e]
      exact ⟨_, rfl, k _ sa⟩
theorem enc_ne (o : Option Nat) : (!decide (V.int (M23.enc o) = V.int (-1))) = o.isSome := by
  cases o with
  | none => rfl
  | some j =>
    show _ = true
    rw [Bool.not_eq_true', decide_eq_false_iff_not]
    intro e
    have := M23.enc_lost.mp (V.int.inj e)
    cases this
def spHasText (K : PySem.W.Frag) : Sp := fun vs H Q _ => ∃ v t p, vs = [v, tx t] ∧ Dp K H v (M23.dP p) ∧ p.length ≤ 1000 ∧ (∀ y ∈ p, y.length ≤ 10) ∧ t.length ≤ 2000 ∧ ∀ H', Same H H' → Q (.bl (M23.runI p 0 (M23.tP t)).isSome) H'
theorem ok_has_text (T : All K mg) : FnOk P w K mg base CX0 6 T.f_has_text T.d_has_text ["product", "text"] (spHasText K) := by
  refine T.has_text.F.ok sc_has_text (fun vs H Q E h => ?_) (fun cdv A outer s H vs Q E hr h => ?_)
  · obtain ⟨v, t, p, rfl, _⟩ := h
    rfl
  · obtain ⟨v, t, p, rfl, hd, hz, hyl, ht, q⟩ := h
    obtain ⟨t1, hLOST⟩ := T.c_LOST
    refine ⟨_, pss_one (ps_ret (pe_cmpR op_ne (pe_call (ok_place_byT T) (hr.mono (by decide)) (by rfl) T.place_by.g T.place_by.F.kp T.place_by.b .nil pass0 (pa_cons (pv 0) (pa_cons pe_int (pa_cons (pv 1) pa_nil)))) (pe_glob (v := .int (-1)) rfl hLOST ⟨_, rfl⟩) (by rfl))), ?_⟩
    refine ⟨_, rfl, _, rfl, v, t, p, some 0, rfl, hd, fun i e => by cases e; exact Nat.zero_le _, hz, hyl, ht, fun H1 s1 => ⟨rfl, ?_⟩⟩
    have e := enc_ne (runO p (some 0) (M23.tP t))
    dsimp only
    rw [e]
    exact q _ s1
def spLies (K : PySem.W.Frag) : Sp := fun vs H Q _ => ∃ v u p q, vs = [v, u] ∧ Dp K H v (M23.dP p) ∧ Dp K H u (M23.dP q) ∧ p.length ≤ 1000 ∧ q.length ≤ 1000 ∧ (∀ y ∈ p, y.length ≤ 10) ∧ (∀ y ∈ q, y.length ≤ 10) ∧ ∀ H', Same H H' → Q (.bl (M23.runI q 0 p).isSome) H'
theorem ok_lies_within (T : All K mg) : FnOk P w K mg base CX0 6 T.f_lies_within T.d_lies_within ["one", "other"] (spLies K) := by
  refine T.lies_within.F.ok sc_lies_within (fun vs H Q E h => ?_) (fun cdv A outer s H vs Q E hr h => ?_)
  · obtain ⟨v, u, p, q, rfl, _⟩ := h
    rfl
  · obtain ⟨v, u, p, q, rfl, hd, hu, hz, hz2, hyl, hyl2, k⟩ := h
    obtain ⟨t1, hLOST⟩ := T.c_LOST
    refine ⟨_, pss_one (ps_ret (pe_cmpR op_ne (pe_call (ok_place_byP T) (hr.mono (by decide)) (by rfl) T.place_by.g T.place_by.F.kp T.place_by.b .nil pass0 (pa_cons (pv 1) (pa_cons pe_int (pa_cons (pv 0) pa_nil)))) (pe_glob (v := .int (-1)) rfl hLOST ⟨_, rfl⟩) (by rfl))), ?_⟩
    refine ⟨_, rfl, _, rfl, u, v, q, some 0, p, rfl, hu, fun i e => by cases e; exact Nat.zero_le _, hz2, hyl2, by omega, hyl, hd, fun H1 s1 => ⟨rfl, ?_⟩⟩
    have e := enc_ne (runO q (some 0) p)
    dsimp only
    rw [e]
    exact k _ s1
end
end Lw
namespace Lw
open PySem PySem.Spec PyProof.Rows L3
open L2 hiding del del_same del_ne
/-- a while, what is known behind it told apart -/
theorem while_fin {c : TT} {tb : TS} {D : Ends} {σ : L2.St} {H : Hp} (W : Nat → L2.St → Hp → Prop) (Fin : L2.St → Hp → Prop) (h0 : ∃ m, W m σ H)
    (hs : ∀ m σ H, W m σ H → ∀ Kc : Bool → Hp → Prop, (∀ H1, tb { D with nx := fun σ' H' => ∃ m', m' < m ∧ W m' σ' H', ct := fun σ' H' => ∃ m', m' < m ∧ W m' σ' H', bk := D.nx } σ H1 → Kc true H1) → (∀ H1, Fin σ H1 → Kc false H1) → c σ H Kc)
    (hf : ∀ σ H, Fin σ H → D.nx σ H) : tWhile c tb D σ H := by
  refine ⟨W, h0, fun m σ H w => hs m σ H w _ (fun H1 h => ?_) (fun H1 h => ?_)⟩
  · exact iteT ⟨fun σ' H' => ∃ m', m' < m ∧ W m' σ' H', fun σ' H' p => p, h⟩
  · exact iteF (hf _ _ h)
/-- letters that can be told -/
def TxOk (x : List Nat) : Prop := (∀ c ∈ x, c < 1114112) ∧ x.length ≤ 10
theorem PcOk.tx {sg x : List Nat} (hl : Lets sg) (h : PcOk sg x) : TxOk x := by
  refine ⟨?_, Nat.le_trans (h.len hl) (by decide)⟩
  rcases h with ⟨c, hc, rfl⟩ | ⟨l, h1, h2, h3, rfl⟩
  · intro d hd
    rw [List.mem_singleton.mp hd]
    have := (hl.az c hc).2
    omega
  · intro d hd
    rcases List.mem_append.mp hd with hd | hd
    · have := (hl.az d (h3 d hd)).2; omega
    · rw [List.mem_singleton.mp hd]; decide
theorem wt_txs {l : List (List Nat)} {n : Nat} (h : ∀ x ∈ l, TxOk x) (hn : l.length ≤ n) : Wt (.list (dTx l)) (11 * n) 1 := by
  refine Wt.list (w := 10) (k := 0) (fun d hd => ?_) (by unfold dTx; rw [List.length_map]; exact hn)
  obtain ⟨t, ht, rfl⟩ := List.mem_map.mp hd
  exact Wt.text (h t ht).1 (h t ht).2
theorem eq_nil (l : List (List Nat)) : PyData.eqv (.list (dTx l)) (.list []) = l.isEmpty := by cases l <;> rfl
theorem rev_last (y : List Nat) (g : List (List Nat)) : (y :: g).reverse.map tx = g.reverse.map tx ++ [tx y] := by rw [List.reverse_cons, List.map_append]; rfl
section
variable {P : Program} {w : World} {K : PySem.W.Frag} {mg : Str → Option Value} {base : Heap}
def spReduced (K : PySem.W.Frag) : Sp := fun vs H Q _ => ∃ v p, vs = [v] ∧ Dp K H v (M23.dP p) ∧ p.length ≤ 100 ∧ (∀ y ∈ p, TxOk y) ∧ ∀ H' a, Same H H' → H a = none → H' a = some (.tup ((M23.redOf p).map tx)) → Q (.ref a) H'
theorem ok_reduced_of (T : All K mg) : FnOk P w K mg base CX0 4 T.f_reduced_of T.d_reduced_of ["product"] (spReduced K) := by
  refine T.reduced_of.F.ok sc_reduced_of (fun vs H Q E h => ?_) (fun cdv A outer s H vs Q E hr h => ?_)
  · obtain ⟨v, p, rfl, _⟩ := h
    rfl
  · obtain ⟨v, p, rfl, hd, hz, hyl, k⟩ := h
    obtain ⟨a, rfl, hs⟩ := dp_pd hd
    refine ⟨_, pss_cons (ps_set (i := 1) sc_reduced_of.nd rfl (by first | exact Or.inl rfl | exact Or.inr rfl) (pe_lst pa_nil))
      (pss_cons (ps_for PassesOwn.never rfl (pi_tup (pv 0)) (pg_name (i := 2) sc_reduced_of.nd rfl (by first | exact Or.inl rfl | exact Or.inr rfl))
        (pss_cons (ps_while PassesOwn.never (PW.pt (pw_and (pt_cmpR (op_neD (u64 hr)) (pv 1) (pe_lst pa_nil) (nomark _)) (pw_and (pt_val (pe_call (ok_is_star T) (hr.mono (by decide)) (by rfl) T.is_star.g T.is_star.F.kp T.is_star.b .nil pass0 (pa_cons (pv 2) pa_nil))) (pw_and1 (pt_val (pe_call (ok_holds T) (hr.mono (by decide)) (by rfl) T.holds.g T.holds.F.kp T.holds.b .nil pass0 (pa_cons (pv 2) (pa_cons (pe_ix ix_list (pv 1) (pe_un un_neg pe_int) (fun _ _ => rfl)) pa_nil))))))))
        (pss_one (ps_expr (pe_bm0 PySem.F.plainAttrs_list PySem.F.slot_list_pop PySem.F.type_list_pop mt_pop (pv 1)))))
      (pss_one (ps_if (PW.pt (pw_or (pt_cmpR (op_eqD (u64 hr)) (pv 1) (pe_lst pa_nil) (nomark _)) (pw_or (pt_not (pt_val (pe_call (ok_is_star T) (hr.mono (by decide)) (by rfl) T.is_star.g T.is_star.F.kp T.is_star.b .nil pass0 (pa_cons (pe_ix ix_list (pv 1) (pe_un un_neg pe_int) (fun _ _ => rfl)) pa_nil)))) (pw_or1 (pt_not (pt_val (pe_call (ok_holds T) (hr.mono (by decide)) (by rfl) T.holds.g T.holds.F.kp T.holds.b .nil pass0 (pa_cons (pe_ix ix_list (pv 1) (pe_un un_neg pe_int) (fun _ _ => rfl)) (pa_cons (pv 2) pa_nil))))))))) (pss_one (ps_expr (pe_bm PySem.F.plainAttrs_list PySem.F.slot_list_append PySem.F.type_list_append mt_append (pv 1) (pa_cons (pv 2) pa_nil)))) pss_nil))))
      (pss_one (ps_ret (pe_callTy call_tuple_of (by rfl) T.b_tuple (show bootBuiltins "tuple" = some (.type "tuple") by decide +kernel) (pa_cons (pv 1) pa_nil))))), ?_⟩
    dsimp only [cxOf]
    refine ⟨by show 0 ≤ sizeLine; decide, fun F nF => ?_⟩
    have sF := same_upd (o := .lst []) nF
    dsimp only [gName]
    refine ⟨_, rfl, a, rfl, ⟨_, sqT_same hs sF⟩, ?_⟩
    refine for_it (walk_tup (xs := p.map tx)) (fun i σ H' => ∃ g, σ = [some (.ref a), some (.ref F), g] ∧ Same H H' ∧ H' F = some (.lst (((p.take i).foldl M23.push []).reverse.map tx))) ⟨none, rfl, sF, upd_same⟩ (fun i σ H' _ pp => by obtain ⟨_, _, e, _⟩ := pp; exact sqT_same hs e) (fun i v σ Ha Hb hi pp yy => ?_) (fun σ Hc pp => ?_)
    · obtain ⟨g, rfl, sa, hF⟩ := pp
      obtain ⟨rfl, hv⟩ := yy
      rw [List.getElem?_map] at hv
      obtain ⟨x, hx, rfl⟩ := Option.map_eq_some_iff.mp hv
      have tk : (p.take (i + 1)).foldl M23.push [] = M23.push ((p.take i).foldl M23.push []) x := by rw [List.take_add_one, hx, List.foldl_append]; rfl
      have hxk := hyl x (List.mem_of_getElem? hx)
      have hfm : ∀ y ∈ (p.take i).foldl M23.push [], TxOk y := fun y hy => (M23.fold_mem hy).elim (fun z => hyl y (List.mem_of_mem_take z)) fun z => by cases z
      have hfl : ((p.take i).foldl M23.push []).length ≤ 100 := by
        have := M23.fold_len (p.take i) []
        rw [List.length_take, List.length_nil] at this
        omega
      rw [tk]
      generalize (p.take i).foldl M23.push [] = f at *
      refine while_fin (fun m σ H' => ∃ f', m = f'.length ∧ σ = [some (.ref a), some (.ref F), some (tx x)] ∧ Same H H' ∧ H' F = some (.lst (f'.reverse.map tx)) ∧ M23.pops x f' = M23.pops x f ∧ (∀ y ∈ f', TxOk y) ∧ f'.length ≤ 100)
        (fun σ H' => ∃ f', σ = [some (.ref a), some (.ref F), some (tx x)] ∧ Same H H' ∧ H' F = some (.lst (f'.reverse.map tx)) ∧ M23.pops x f = f' ∧ (∀ y ∈ f', TxOk y) ∧ f'.length ≤ 100) ⟨_, f, rfl, rfl, sa, hF, rfl, hfm, hfl⟩ (fun m σ H1 hw Kc kt kf => ?_) (fun σ H1 hw => ?_)
      · obtain ⟨f', rfl, rfl, s1, hF1, hpop, hm1, hl1⟩ := hw
        refine ⟨_, rfl, by show 0 ≤ sizeLine; decide, fun E0' nE => ?_⟩
        have s2 := s1.trans (same_upd (o := .lst []) nE)
        have hF2 := same_upd (o := .lst []) nE _ _ hF1
        have hE2 := upd_same (H := H1) (a := E0') (o := .lst [])
        generalize upd H1 E0' (.lst []) = H2 at *
        refine ⟨.list (dTx f'.reverse), .list [], .lst (xs := f'.reverse.map tx) (.inl (.inl hF2)) (dp_txs _), .lst (.inl (.inl hE2)) .nil, (wt_txs (n := 100) (fun y hy => hm1 y (List.mem_reverse.mp hy)) (by rw [List.length_reverse]; exact hl1)).shaped (by decide), rfl, ?_⟩
        rw [eq_nil]
        cases f' with
        | nil => exact ⟨_, rfl, ite_f rfl (kf _ ⟨[], rfl, s2, hF2, hpop.symm, hm1, hl1⟩)⟩
        | cons y g' =>
          refine ⟨_, rfl, ite_t (by simp) ?_⟩
          have hyx := hm1 y List.mem_cons_self
          refine ⟨_, rfl, x, rfl, by have := hxk.2; omega, _, rfl, ite2 (fun e => ?_) (fun e => ?_)⟩
          · refine ⟨_, rfl, _, rfl, 1, rfl, F, _, _, tx y, rfl, rfl, .inl (.inl hF2), by rw [rev_last]; exact atI_last _ _, x, y, rfl, hxk.2, hyx.2, fun H3 s3 => ⟨_, rfl, ?_⟩⟩
            have s13 := s2.trans s3
            have hF3 := s3 _ _ hF2
            cases hh : M23.holds x y with
            | true =>
              refine kt _ ?_
              refine ⟨_, rfl, .inl ⟨rfl, _, .inl (.inl hF3)⟩, F, _, tx y, rfl, rfl, hF3, ?_, ?_⟩
              · rw [rev_last]; simp
              · refine ⟨g'.length, by simp, g', rfl, rfl, same_up s13 nF, ?_, ?_, fun z hz => hm1 z (List.mem_cons_of_mem _ hz), ?_⟩
                · rw [upd_same, rev_last, List.dropLast_concat]
                · rw [← hpop]
                  conv => rhs; unfold M23.pops
                  rw [e, hh]
                  rfl
                · have : (y :: g').length ≤ 100 := hl1
                  simp at this
                  omega
            | false =>
              refine kf _ ⟨y :: g', rfl, s13, hF3, ?_, hm1, hl1⟩
              rw [← hpop]
              unfold M23.pops
              rw [hh, Bool.and_false, if_neg (by decide)]
          · refine kf _ ⟨y :: g', rfl, s2, hF2, ?_, hm1, hl1⟩
            rw [← hpop]
            unfold M23.pops
            rw [Bool.eq_false_iff.mpr e, Bool.false_and, if_neg (by decide)]
      · obtain ⟨f', rfl, s1, hF1, hpop, hm1, hl1⟩ := hw
        have hpush : M23.push f x = match f' with | [] => [x] | y :: g => if M23.isS y && M23.holds y x then y :: g else x :: y :: g := by unfold M23.push; rw [hpop] <;> cases f' <;> rfl
        refine ⟨_, rfl, by show 0 ≤ sizeLine; decide, fun E0' nE => ?_⟩
        have s2 := s1.trans (same_upd (o := .lst []) nE)
        have hF2 := same_upd (o := .lst []) nE _ _ hF1
        have hE2 := upd_same (H := H1) (a := E0') (o := .lst [])
        generalize upd H1 E0' (.lst []) = H2 at *
        refine ⟨.list (dTx f'.reverse), .list [], .lst (xs := f'.reverse.map tx) (.inl (.inl hF2)) (dp_txs _), .lst (.inl (.inl hE2)) .nil, (wt_txs (n := 100) (fun y hy => hm1 y (List.mem_reverse.mp hy)) (by rw [List.length_reverse]; exact hl1)).shaped (by decide), rfl, ?_⟩
        rw [eq_nil]
        have hb : ∀ H3 : Hp, (f'.reverse.map tx).length < sizeLine := fun _ => by
          rw [List.length_map, List.length_reverse]; exact Nat.lt_of_le_of_lt hl1 (Nat.lt_of_lt_of_le (by decide : 100 < 1000) (sz (by decide)))
        have hrv : (x :: f').reverse.map tx = f'.reverse.map tx ++ [tx x] := rev_last x f'
        cases f' with
        | nil =>
          refine ⟨_, rfl, ite_t rfl ⟨_, rfl, .inl ⟨rfl, _, .inl (.inl hF2)⟩, _, rfl, F, _, _, rfl, rfl, hF2, hb H2, _, rfl, same_up s2 nF, ?_⟩⟩
          rw [upd_same, hpush]
          rfl
        | cons y g' =>
          refine ⟨_, rfl, ite_f (by simp) ?_⟩
          have hyx := hm1 y List.mem_cons_self
          refine ⟨_, rfl, 1, rfl, F, _, _, tx y, rfl, rfl, .inl (.inl hF2), by rw [rev_last]; exact atI_last _ _, y, rfl, by have := hyx.2; omega, _, rfl, ?_⟩
          cases e : M23.isS y with
          | false =>
            refine ite_t (by rfl) ⟨_, rfl, .inl ⟨rfl, _, .inl (.inl hF2)⟩, _, rfl, F, _, _, rfl, rfl, hF2, hb H2, _, rfl, same_up s2 nF, ?_⟩
            rw [upd_same, hpush]
            dsimp only
            rw [e, Bool.false_and, if_neg (by decide), rev_last x]
          | true =>
            refine ite_f (by decide) ?_
            refine ⟨_, rfl, 1, rfl, F, _, _, tx y, rfl, rfl, .inl (.inl hF2), by rw [rev_last]; exact atI_last _ _, _, rfl, y, x, rfl, hyx.2, hxk.2, fun H3 s3 => ⟨_, rfl, ?_⟩⟩
            have s13 := s2.trans s3
            have hF3 := s3 _ _ hF2
            cases hh : M23.holds y x with
            | false =>
              refine ite_t (by rfl) ⟨_, rfl, .inl ⟨rfl, _, .inl (.inl hF3)⟩, _, rfl, F, _, _, rfl, rfl, hF3, hb H3, _, rfl, same_up s13 nF, ?_⟩
              rw [upd_same, hpush]
              dsimp only
              rw [hh, Bool.and_false, if_neg (by decide), rev_last x]
            | true =>
              refine ite_f (by decide) ⟨_, rfl, s13, ?_⟩
              rw [hF3, hpush]
              dsimp only
              rw [hh, e, Bool.and_true, if_pos rfl]
    · obtain ⟨g, rfl, sa, hF⟩ := pp
      rw [List.length_map, List.take_length] at hF
      refine ⟨_, rfl, F, _, rfl, .inl ⟨.inl (.inl hF), fun l nl => ?_⟩⟩
      have sl := same_upd (o := .tup ((((p.foldl M23.push []).reverse)).map tx)) nl
      exact k _ l (sa.trans sl) (sa.free nl) upd_same
end
end Lw
namespace Lw
open PySem PySem.Spec PyProof.Rows L3
open L2 hiding del del_same del_ne
theorem cr_anyK {X : Cx} {K : PySem.W.Frag} (h : X.K = K) (hc : X.calm = true) : CallR X (.builtin "any") (rAny K) := h ▸ cr_any hc
theorem cr_allK {X : Cx} {K : PySem.W.Frag} (h : X.K = K) (hc : X.calm = true) : CallR X (.builtin "all") (rAll K) := h ▸ cr_all hc
abbrev AP := Addr × M23.Pd
def rfs (bs : List AP) : List V := bs.map fun b => .ref b.1
def dd (es : List AP) (x : AP) : List AP := if x.2 ∈ es.map Prod.snd then es else es ++ [x]
def ddl (L : List AP) : List AP := L.foldl dd []
def encT (x : AP) : EntN := (M23.dP x.2, x.1, .bl true)
theorem keyNs_inj : ∀ {a b : List Str}, keyNs (a.map .str) = keyNs (b.map .str) → a = b
  | [], [], _ => rfl
  | [], _ :: _, h => by rw [List.map_nil, List.map_cons, keyNs, keyNs] at h; cases h
  | _ :: _, [], h => by rw [List.map_nil, List.map_cons, keyNs, keyNs] at h; cases h
  | x :: a, y :: b, h => by
    rw [List.map_cons, List.map_cons, keyNs, keyNs, keyN, keyN] at h
    injection h with h1 h2
    injection h1 with h1
    rw [h1, keyNs_inj h2]
theorem keyP_inj {p q : M23.Pd} (h : keyN (M23.dP p) = keyN (M23.dP q)) : p = q := by
  unfold M23.dP dS at h
  rw [keyN, keyN] at h
  injection h with h
  exact M23.sS_inj (keyNs_inj h)
theorem valP (v : V) (p : M23.Pd) : ∀ es : List AP, (valN (es.map fun x => (M23.dP x.2, x.1, v)) (keyN (M23.dP p))).isSome = decide (p ∈ es.map Prod.snd)
  | [] => rfl
  | x :: es => by
    have ih := valP v p es
    unfold valN at ih ⊢
    rw [List.map_cons, List.find?_cons, List.map_cons]
    by_cases e : x.2 = p
    · subst e
      rw [decide_eq_true rfl]
      simp
    · have n : ¬ keyN (M23.dP x.2) = keyN (M23.dP p) := fun z => e (keyP_inj z)
      rw [decide_eq_false (show ¬ keyN (M23.dP x.2, x.1, v).1 = keyN (M23.dP p) from n)]
      show _ = decide (p ∈ x.2 :: es.map Prod.snd)
      rw [show decide (p ∈ x.2 :: es.map Prod.snd) = decide (p ∈ es.map Prod.snd) from decide_eq_decide.mpr ⟨fun z => (List.mem_cons.mp z).elim (fun z => absurd z.symm e) id, List.mem_cons_of_mem _⟩]
      exact ih
theorem storeE_T (es : List AP) (x : AP) : L3.storeE (es.map encT) (encT x) = (dd es x).map encT := by
  have hv := valP (.bl true) x.2 es
  unfold L3.storeE dd
  show (if (valN (es.map encT) (keyN (M23.dP x.2))).isSome = true then _ else _) = _
  rw [show (valN (es.map encT) (keyN (M23.dP x.2))).isSome = decide (x.2 ∈ es.map Prod.snd) from hv]
  by_cases h : x.2 ∈ es.map Prod.snd
  · rw [if_pos (decide_eq_true h), if_pos h, List.map_map]
    refine List.map_congr_left fun y _ => ?_
    show (if keyN (M23.dP y.2) = keyN (M23.dP x.2) then (M23.dP y.2, y.1, V.bl true) else (M23.dP y.2, y.1, V.bl true)) = encT y
    split <;> rfl
  · rw [if_neg (by rw [decide_eq_false h]; decide), if_neg h, List.map_append]
    rfl
theorem storeAll_T : ∀ (L es : List AP), L3.storeAll (es.map encT) (L.map encT) = (L.foldl dd es).map encT
  | [], _ => rfl
  | x :: L, es => by
    show L3.storeAll (L3.storeE (es.map encT) (encT x)) (L.map encT) = _
    rw [storeE_T]
    exact storeAll_T L (dd es x)
theorem ddl_nodup : ∀ (L es : List AP), (es.map Prod.snd).Nodup → ((L.foldl dd es).map Prod.snd).Nodup
  | [], _, h => h
  | x :: L, es, h => ddl_nodup L _ (by
      unfold dd
      split
      · exact h
      · rename_i n
        rw [List.map_append]
        exact List.nodup_append.mpr ⟨h, by simp, fun a ha b hb => by
          rw [List.map_cons, List.map_nil, List.mem_singleton] at hb
          rw [hb]
          exact fun z => n (z ▸ ha)⟩)
theorem ddl_sub : ∀ (L es : List AP) (y : AP), y ∈ L.foldl dd es → y ∈ es ∨ y ∈ L
  | [], _, _, h => .inl h
  | x :: L, es, y, h => by
    rcases ddl_sub L _ y h with h | h
    · unfold dd at h
      split at h
      · exact .inl h
      · exact (List.mem_append.mp h).imp id fun z => by rw [List.mem_singleton.mp z]; exact List.mem_cons_self
    · exact .inr (List.mem_cons_of_mem _ h)
theorem ddl_mem : ∀ (L es : List AP) (p : M23.Pd), p ∈ (L.foldl dd es).map Prod.snd ↔ p ∈ es.map Prod.snd ∨ p ∈ L.map Prod.snd
  | [], _, _ => by simp
  | x :: L, es, p => by
    rw [show (x :: L).foldl dd es = L.foldl dd (dd es x) from rfl, ddl_mem L, List.map_cons, List.mem_cons]
    have : p ∈ (dd es x).map Prod.snd ↔ p ∈ es.map Prod.snd ∨ p = x.2 := by
      unfold dd
      split
      · rename_i h
        exact ⟨.inl, fun z => z.elim id fun e => e ▸ h⟩
      · rw [List.map_append, List.mem_append, List.map_cons, List.map_nil, List.mem_singleton]
    rw [this, or_assoc]
theorem ddl_len : ∀ (L es : List AP), (L.foldl dd es).length ≤ es.length + L.length
  | [], _ => Nat.le_refl _
  | x :: L, es => by
    have h := ddl_len L (dd es x)
    have : (dd es x).length ≤ es.length + 1 := by unfold dd; split <;> simp
    show (L.foldl dd (dd es x)).length ≤ _
    rw [List.length_cons]
    omega
theorem eqv_dP (p q : M23.Pd) : PyData.eqv (M23.dP p) (M23.dP q) = decide (p = q) := by
  have h := eqv_map (fun t : List Nat => PyData.str (tS t)) (fun a b => by
    show (tS a == tS b) = _
    by_cases e : a = b
    · subst e; simp
    · rw [decide_eq_false e]
      exact beq_eq_false_iff_ne.mpr fun z => e (tS_inj z)) p q
  have e : ∀ p : M23.Pd, M23.dP p = .tuple (p.map fun t => PyData.str (tS t)) := fun p => by unfold M23.dP dS M23.sS; rw [List.map_map]; rfl
  rw [e, e, PyData.eqv]
  exact h
theorem wt_dP {p : M23.Pd} {n : Nat} (h : ∀ x ∈ p, TxOk x) (hn : p.length ≤ n) : Wt (M23.dP p) (11 * n) 1 := by
  unfold M23.dP dS M23.sS
  rw [List.map_map]
  refine Wt.tuple (w := 10) (k := 0) (fun d hd => ?_) (by rw [List.length_map]; exact hn)
  obtain ⟨t, ht, rfl⟩ := List.mem_map.mp hd
  exact Wt.text (h t ht).1 (h t ht).2
def srtP (L : List AP) : List AP := L.mergeSort fun a b => M23.ple a.2 b.2
def txs (x : AP) : Addr × List Str := (x.1, M23.sS x.2)
theorem srt_txs (L : List AP) : srtS (L.map txs) = (srtP L).map txs := by
  unfold srtS srtP
  exact (List.map_mergeSort (f := txs) (r := fun a b : AP => M23.ple a.2 b.2) (s := PySem.W.dataLe false fun p : Addr × List Str => dS p.2) (l := L) (fun a _ b _ => rfl)).symm
theorem srtP_perm (L : List AP) : (srtP L).Perm L := List.mergeSort_perm _ _
theorem srtP_sorted (L : List AP) : (srtP L).Pairwise fun a b => M23.ple a.2 b.2 = true :=
  List.pairwise_mergeSort (le := fun a b : AP => M23.ple a.2 b.2) (fun a b c => M23.ple_trans a.2 b.2 c.2) (fun a b => M23.ple_total a.2 b.2) L
theorem srtP_canon (L : List AP) : (srtP (ddl L)).map Prod.snd = M23.canon (L.map Prod.snd) := by
  refine M23.canon_uniq ?_ ?_ fun x => ?_
  · exact ((srtP_perm _).map Prod.snd).nodup_iff.mpr (ddl_nodup L [] (by simp))
  · rw [List.pairwise_map]; exact srtP_sorted _
  · rw [((srtP_perm _).map Prod.snd).mem_iff]
    unfold ddl
    rw [ddl_mem]
    simp
theorem filter_kept (cs : List AP) (S : List M23.Pd) (h : cs.map Prod.snd = M23.canon S) : (cs.filter fun c => !(cs.any fun d => !decide (c.2 = d.2) && (M23.runI d.2 0 c.2).isSome)).map Prod.snd = M23.maxs S := by
  have e : (fun c : AP => !(cs.any fun d => !decide (c.2 = d.2) && (M23.runI d.2 0 c.2).isSome)) = (fun p => decide (∀ q ∈ M23.canon S, q ≠ p → M23.run q p = none)) ∘ Prod.snd := by
    funext c
    rw [Bool.eq_iff_iff]
    show _ ↔ decide _ = true
    rw [decide_eq_true_iff, ← h, Bool.not_eq_true', List.any_eq_false]
    constructor
    · intro z q hq hn
      obtain ⟨d, hd, rfl⟩ := List.mem_map.mp hq
      have := z d hd
      rw [Bool.and_eq_true, Bool.not_eq_true', decide_eq_false_iff_not] at this
      cases hr : M23.run d.2 c.2 with
      | none => rfl
      | some r => exact absurd ⟨fun e => hn e.symm, M23.runI_some.mpr (M23.run_emb.mp (by rw [hr]; rfl))⟩ this
    · intro z d hd
      rw [Bool.and_eq_true, Bool.not_eq_true', decide_eq_false_iff_not]
      rintro ⟨h1, h2⟩
      have h3 := z d.2 (List.mem_map_of_mem hd) fun e => h1 e.symm
      have h4 := M23.run_emb.mpr (M23.runI_some.mp h2)
      rw [h3] at h4
      cases h4
  unfold M23.maxs
  rw [e, ← List.filter_map, h]
section
variable {P : Program} {w : World} {K : PySem.W.Frag} {mg : Str → Option Value} {base : Heap}
/-- products as they lie: their addresses -/
def Prods (K : PySem.W.Frag) (H : Hp) (bs : List (Addr × M23.Pd)) : Prop := ∀ b ∈ bs, SqT K H b.1 (b.2.map tx)
theorem pd_dp {H : Hp} {a : Addr} {p : M23.Pd} (h : SqT K H a (p.map tx)) : Dp K H (.ref a) (M23.dP p) := by
  unfold M23.dP dS M23.sS
  rw [List.map_map]
  exact .tup h (dp_txs p)
/-- pairs of a product and True, as they lie -/
def PT (H : Hp) : List Addr → List AP → Prop := Paired fun t x => H t = some (.tup [.ref x.1, .bl true]) ∧ H x.1 = some (.tup (x.2.map tx))
theorem PT.same {H H' : Hp} {ts : List Addr} {L : List AP} (h : PT H ts L) (s : Same H H') : PT H' ts L := Paired.mapP h fun _ _ z => ⟨s _ _ z.1, s _ _ z.2⟩
theorem up_tup {H : Hp} {D a : Addr} {xs ys : List V} {o : HO} (hD : H D = some (.lst ys)) (h : H a = some (.tup xs)) : upd H D o a = some (.tup xs) := by
  rw [upd_ne (ne_of h hD fun z => by cases z)]
  exact h
theorem PT.up {H : Hp} {D : Addr} {ys : List V} {o : HO} {ts : List Addr} {L : List AP} (h : PT H ts L) (hD : H D = some (.lst ys)) : PT (upd H D o) ts L := Paired.mapP h fun _ _ z => ⟨up_tup hD z.1, up_tup hD z.2⟩
theorem Paired.snocP {α β : Type} {F : α → β → Prop} : ∀ {l : List α} {m : List β} {a : α} {b : β}, Paired F l m → F a b → Paired F (l ++ [a]) (m ++ [b])
  | _, _, _, _, .nil, h => .cons h .nil
  | _, _, _, _, .cons r t, h => .cons r (Paired.snocP t h)
theorem pt_pairs {H : Hp} {ts : List Addr} {L : List AP} (h : PT H ts L) : Paired (fun (t : Addr) (p : EntN) => SqT K H t [V.ref p.2.1, p.2.2]) ts (L.map encT) := by
  unfold PT at h
  induction h with
  | nil => exact .nil
  | cons h _ ih => exact .cons (.inl (.inl h.1)) ih
theorem keyables_strs : ∀ l : List Str, keyables (l.map .str) = true
  | [] => rfl
  | x :: l => by rw [List.map_cons, keyables, keyables_strs l]; rfl
theorem keyable_dP (p : M23.Pd) : keyable (M23.dP p) = true := by
  unfold M23.dP dS
  rw [keyable]
  exact keyables_strs _
theorem depth_strs : ∀ l : List Str, NestedKey.depthAll (keyNs (l.map .str)) = 0
  | [] => rfl
  | x :: l => by rw [List.map_cons, keyNs, NestedKey.depthAll, depth_strs l]; rfl
theorem depth_dP (p : M23.Pd) : (keyN (M23.dP p)).depth ≤ 8 := by
  unfold M23.dP dS
  rw [keyN, NestedKey.depth, depth_strs]
  decide
def spKeptOf (K : PySem.W.Frag) : Sp := fun vs H Q _ => ∃ (l : Addr) (bs : List (Addr × M23.Pd)), vs = [.ref l] ∧ (SqL K H l (rfs bs) ∨ SqT K H l (rfs bs)) ∧ Prods K H bs ∧ bs.length ≤ 40 ∧ (∀ b ∈ bs, b.2.length ≤ 100) ∧ (∀ b ∈ bs, ∀ y ∈ b.2, TxOk y) ∧
  ∀ H' p (cs : List (Addr × M23.Pd)), Same H H' → H p = none → H' p = some (.lst (rfs cs)) → Prods K H' cs → cs.map Prod.snd = M23.kept (bs.map Prod.snd) → Q (.ref p) H'
theorem ok_kept_of (T : All K mg) : FnOk P w K mg base CX0 7 T.f_kept_of T.d_kept_of ["products"] (spKeptOf K) := by
  refine T.kept_of.F.ok sc_kept_of (fun vs H Q E h => ?_) (fun cdv A outer s H vs Q E hr h => ?_)
  · obtain ⟨l, bs, rfl, _⟩ := h
    rfl
  · obtain ⟨l, bs, rfl, hl, hp, hz, hz2, hy, k⟩ := h
    refine ⟨_, pss_cons (ps_set (i := 1) sc_kept_of.nd rfl (by first | exact Or.inl rfl | exact Or.inr rfl) (pe_callB (cr_sortTD rfl (u64 hr)) (by rfl) T.b_sorted PyProof.Rows.boot_sorted (pa_cons (pe_callTy (cr_dictN rfl (u64 hr)) (by rfl) T.b_dict (show bootBuiltins "dict" = some (.type "dict") by decide +kernel) (pa_cons (pe_lc (own := [("product", 2)]) (g := gName 2) (tt := tYes) rfl sc_kept_of.nd (pi_sq (pv 0))
          (blkOk_by (own := [("product", 2)]) (N := ["products", "some", "product", "one", "other"]) (sc := defScope s_kept_of) (by decide +kernel))
          (fun _ _ _ _ _ => pg_name (i := 2) sc_kept_of.nd rfl (by first | exact Or.inl rfl | exact Or.inr rfl)) (fun _ _ _ _ _ => pts_nil)
          (fun _ _ _ _ _ => (pe_tup (pa_cons (pe_call (ok_reduced_of T) (hr.mono (by decide)) (by rfl) T.reduced_of.g T.reduced_of.F.kp T.reduced_of.b .nil pass0 (pa_cons (pv 2) pa_nil)) (pa_cons pe_bl pa_nil))))) pa_nil)) pa_nil)))
      (pss_one (ps_ret (pe_lc (own := [("one", 3)]) (g := gName 3) rfl sc_kept_of.nd (pi_list (pv 1))
          (blkOk_by (own := [("one", 3)]) (N := ["products", "some", "product", "one", "other"]) (sc := defScope s_kept_of) (by decide +kernel))
          (fun _ _ _ _ _ => pg_name (i := 3) sc_kept_of.nd rfl (by first | exact Or.inl rfl | exact Or.inr rfl)) (fun _ _ _ _ _ => (pts_one (pt_not (pt_val (pe_callB (cr_anyK (K := K) rfl rfl) (by rfl) T.b_any PyProof.Rows.boot_any (pa_cons (pe_lc (own := [("other", 4)]) (g := gName 4) (tt := tYes) rfl sc_kept_of.nd (pi_listK (K := K) rfl (pv 1))
          (blkOk_by (own := [("other", 4)]) (N := ["products", "some", "product", "one", "other"]) (by first | kernel_rfl | rfl))
          (fun _ _ _ _ _ => pg_name (i := 4) sc_kept_of.nd rfl (by first | exact Or.inl rfl | exact Or.inr rfl)) (fun _ _ _ _ _ => pts_nil)
          (fun _ _ _ _ _ => (pe_and (pe_cmpR (op_neDK (K := K) rfl (u64 hr)) (pv 3) (pv 4) (by rfl))
        (pe_one (pe_call (ok_lies_within T) (hr.mono (by decide)) (by rfl) T.lies_within.g T.lies_within.F.kp T.lies_within.b .nil pass0 (pa_cons (pv 3) (pa_cons (pv 4) pa_nil))))))) pa_nil))))))
          (fun _ _ _ _ _ => (pv 3))))), ?_⟩
    dsimp only [cxOf]
    have hS : Sq K H (.ref l) (rfs bs) := ⟨l, rfl, hl⟩
    have hbl : (rfs bs).length = bs.length := List.length_map _
    refine ⟨_, rfl, rfs bs, H, hS, Same.refl H, fun J G wk hG D nD => ?_⟩
    refine lc_it wk (fun i H' => Same H H' ∧ ∃ ts L, H' D = some (.lst (ts.map V.ref)) ∧ ts.length = i ∧ L.map Prod.snd = (bs.take i).map (fun b => M23.redOf b.2) ∧ PT H' ts L) ⟨same_upd nD, [], [], upd_same, rfl, rfl, .nil⟩ (fun i H' _ pp => hG H' pp.1) (fun i x H1 H2 hi pp yy => ?_) (fun H1 pp => ?_)
    · obtain ⟨s1, ts, L, hD, hts, hL, hP⟩ := pp
      obtain ⟨rfl, yy⟩ := yy
      rw [show (rfs bs)[i]? = (bs[i]?).map fun b => V.ref b.1 from List.getElem?_map] at yy
      obtain ⟨b, hb, rfl⟩ := Option.map_eq_some_iff.mp yy
      have hbm := List.mem_of_getElem? hb
      refine ⟨rfl, yes_te ?_⟩
      refine ⟨_, rfl, .ref b.1, b.2, rfl, pd_dp (sqT_same (hp b hbm) s1), hz2 b hbm, hy b hbm, fun H3 a s3 na ha => ⟨by show 2 ≤ sizeLine; decide, fun t nt => ?_⟩⟩
      have hD3 := s3 _ _ hD
      have st := same_upd (o := .tup [.ref a, .bl true]) nt
      have hDt := st _ _ hD3
      refine ⟨_, hDt, ?_, same_up ((s1.trans s3).trans st) nD, ts ++ [t], L ++ [(a, M23.redOf b.2)], ?_, ?_, ?_, ?_⟩
      · rw [List.length_map, hts]; exact Nat.lt_of_lt_of_le (by omega : i < 100) (sz (by decide))
      · rw [upd_same, List.map_append]; rfl
      · rw [List.length_append, hts]; rfl
      · rw [List.map_append, hL, List.take_add_one, hb, List.map_append]; rfl
      · refine PT.up (Paired.snocP (hP.same (s3.trans st)) ⟨upd_same, st _ _ ha⟩) hDt
    · obtain ⟨s1, ts, L, hD, hts, hL, hP⟩ := pp
      rw [hbl, ← hbl, hbl, List.take_length] at hL
      have hLl : L.length = bs.length := by have := congrArg List.length hL; simpa using this
      have hLm : L.map Prod.snd = (bs.map Prod.snd).map M23.redOf := by rw [hL, List.map_map]; rfl
      have hLz : ∀ x ∈ L, x.2.length ≤ 100 ∧ ∀ y ∈ x.2, TxOk y := fun x hx => by
        have : x.2 ∈ bs.map (fun b => M23.redOf b.2) := hL ▸ List.mem_map_of_mem hx
        obtain ⟨b, hb, e⟩ := List.mem_map.mp this
        rw [← e]
        exact ⟨Nat.le_trans (M23.redOf_len b.2) (hz2 b hb), fun y hm => hy b hb y (M23.redOf_mem hm)⟩
      have hLp : ∀ x ∈ L, H1 x.1 = some (.tup (x.2.map tx)) := by
        unfold PT at hP
        clear hL hLl hLm hLz hts hD
        induction hP with
        | nil => intro x hx; cases hx
        | cons h t ih =>
          intro x hx
          rcases List.mem_cons.mp hx with rfl | hx
          · exact h.2
          · exact ih x hx
      refine ⟨D, ts, L.map encT, rfl, .inl (.inl hD), ?_, ?_, fun dA ndA => ?_⟩
      · exact pt_pairs hP
      · exact fun x hx => by
          obtain ⟨y, hy', rfl⟩ := List.mem_map.mp hx
          exact ⟨pd_dp (.inl (.inl (hLp y hy'))), keyable_dP y.2, depth_dP y.2⟩
      · rw [show L3.storeAll [] (L.map encT) = (ddl L).map encT from storeAll_T L []]
        have s2 := same_upd (o := TN P w dA ((ddl L).map encT)) ndA
        have hds : ∀ x ∈ ddl L, x ∈ L := fun x hx => (ddl_sub L [] x hx).elim (fun z => by cases z) id
        refine ⟨dA, (ddl L).map encT, (ddl L).map txs, rfl, upd_same, ?_, ?_, fun sA nsA => ?_⟩
        · rw [List.map_map, List.map_map]; rfl
        · exact fun x hx => by
            obtain ⟨y, hy', rfl⟩ := List.mem_map.mp hx
            exact pd_dp (.inl (.inl (s2 _ _ (hLp y (hds y hy')))))
        · rw [srt_txs, List.map_map]
          have hS2 : ((fun p : Addr × List Str => V.ref p.1) ∘ txs) = fun b : AP => V.ref b.1 := rfl
          rw [hS2]
          have s3 := s2.trans (same_upd (o := .lst (rfs (srtP (ddl L)))) nsA)
          have hcan : (srtP (ddl L)).map Prod.snd = M23.canon ((bs.map Prod.snd).map M23.redOf) := by rw [srtP_canon, hLm]
          have hcm : ∀ x ∈ srtP (ddl L), x ∈ L := fun x hx => hds x ((srtP_perm _).mem_iff.mp hx)
          have hcl : (srtP (ddl L)).length ≤ 40 := by
            rw [(srtP_perm _).length_eq]
            have := ddl_len L []
            unfold ddl
            rw [List.length_nil] at this
            omega
          have hA : upd (upd H1 dA (TN P w dA (List.map encT (ddl L)))) sA (.lst (rfs (srtP (ddl L)))) sA = some (.lst (rfs (srtP (ddl L)))) := upd_same
          have hcp : ∀ x ∈ srtP (ddl L), upd (upd H1 dA (TN P w dA (List.map encT (ddl L)))) sA (.lst (rfs (srtP (ddl L)))) x.1 = some (.tup (x.2.map tx)) := fun x hx => s3 _ _ (hLp x (hcm x hx))
          have hcz : ∀ x ∈ srtP (ddl L), x.2.length ≤ 100 ∧ ∀ y ∈ x.2, TxOk y := fun x hx => hLz x (hcm x hx)
          have k2 : ∀ H', Same (upd (upd H1 dA (TN P w dA (List.map encT (ddl L)))) sA (.lst (rfs (srtP (ddl L))))) H' → ∀ p cs, H p = none → H' p = some (.lst (rfs cs)) → (∀ x ∈ cs, x ∈ srtP (ddl L)) → cs.map Prod.snd = M23.kept (bs.map Prod.snd) → Q (.ref p) H' := fun H' s4 p cs np hp' hsub e =>
            k H' p cs ((s1.trans s3).trans s4) np hp' (fun x hx => .inl (.inl (s4 _ _ (hcp x (hsub x hx))))) e
          have np2 : ∀ p, upd (upd H1 dA (TN P w dA (List.map encT (ddl L)))) sA (.lst (rfs (srtP (ddl L)))) p = none → H p = none := fun p hp' => (s1.trans s3).free hp'
          show gName 1 (.ref sA) _ (upd (upd H1 dA (TN P w dA (List.map encT (ddl L)))) sA (.lst (rfs (srtP (ddl L))))) _
          generalize upd (upd H1 dA (TN P w dA (List.map encT (ddl L)))) sA (.lst (rfs (srtP (ddl L)))) = HA at *
          generalize srtP (ddl L) = cs at *
          clear hds hLz hLp hP hLm hLl hL hts hD
          have hcs : (rfs cs).length = cs.length := List.length_map _
          refine ⟨_, rfl, sA, rfl, ⟨_, .inl (.inl hA)⟩, fun D2 nD2 => ?_⟩
          refine lc_gen (walk_list (xs := rfs cs)) (Same HA) (fun i acc => acc = rfs ((cs.take i).filter fun c => !(cs.any fun d => !decide (c.2 = d.2) && (M23.runI d.2 0 c.2).isSome))) (sz (by rw [hcs]; omega)) (fun i acc e => ?_) rfl (same_upd nD2) (fun _ _ h => same_up h nD2) (fun _ h => .inl (.inl (h _ _ hA))) (fun i x H2 H3 acc C N hi r hD ha y c n => ?_) (fun H2 xs r hD ha => ?_)
          · rw [e]
            show (List.map _ _).length ≤ i
            rw [List.length_map]
            exact Nat.le_trans (List.length_filter_le _ _) (by rw [List.length_take]; omega)
          · obtain ⟨rfl, yy⟩ := y
            rw [show (rfs cs)[i]? = (cs[i]?).map fun b => V.ref b.1 from List.getElem?_map] at yy
            obtain ⟨b, hb, rfl⟩ := Option.map_eq_some_iff.mp yy
            have hbm := List.mem_of_getElem? hb
            refine ⟨rfl, ?_⟩
            have hfil : (cs.take (i + 1)).filter (fun c => !(cs.any fun d => !decide (c.2 = d.2) && (M23.runI d.2 0 c.2).isSome)) = (cs.take i).filter (fun c => !(cs.any fun d => !decide (c.2 = d.2) && (M23.runI d.2 0 c.2).isSome)) ++ if (!(cs.any fun d => !decide (b.2 = d.2) && (M23.runI d.2 0 b.2).isSome)) = true then [b] else [] := by
              rw [List.take_add_one, hb, List.filter_append]
              show _ ++ List.filter _ [b] = _
              rw [List.filter_cons]
              rfl
            rw [hfil] at c n
            refine ⟨_, rfl, sA, rfl, ⟨_, .inl (.inl (r _ _ hA))⟩, fun D3 nD3 => ?_⟩
            refine lc_gen (walk_list (xs := rfs cs)) (Same H3) (fun j acc2 => acc2 = (cs.take j).map fun d => V.bl (!decide (b.2 = d.2) && (M23.runI d.2 0 b.2).isSome)) (sz (by rw [hcs]; omega)) (fun i acc e => by rw [e, List.length_map, List.length_take]; omega) rfl (same_upd nD3) (fun _ _ h => same_up h nD3) (fun _ h => .inl (.inl (h _ _ (r _ _ hA)))) (fun j x H4 H5 acc2 C2 N2 hj r4 hD4 ha2 y2 c2 n2 => ?_) (fun H4 xs r4 hD4 ha2 => ?_)
            · obtain ⟨rfl, yy2⟩ := y2
              rw [show (rfs cs)[j]? = (cs[j]?).map fun b => V.ref b.1 from List.getElem?_map] at yy2
              obtain ⟨d, hd, rfl⟩ := Option.map_eq_some_iff.mp yy2
              have hdm := List.mem_of_getElem? hd
              have r5 := r.trans r4
              have db : Dp K H5 (.ref b.1) (M23.dP b.2) := pd_dp (.inl (.inl (r5 _ _ (hcp b hbm))))
              have de : Dp K H5 (.ref d.1) (M23.dP d.2) := pd_dp (.inl (.inl (r5 _ _ (hcp d hdm))))
              have zb := hcz b hbm
              have zd := hcz d hdm
              refine ⟨rfl, yes_te ?_⟩
              refine ⟨_, rfl, _, rfl, _, _, db, de, (wt_dP zb.2 zb.1).shaped (by decide), (wt_dP zd.2 zd.1).shaped (by decide), ?_⟩
              rw [eqv_dP]
              refine ⟨_, rfl, ite2 (fun e => ?_) (fun e => ?_)⟩
              · refine ⟨_, rfl, _, rfl, _, _, _, _, rfl, db, de, by omega, by omega, fun y hy' => (zb.2 y hy').2, fun y hy' => (zd.2 y hy').2, fun H6 s6 => c2 _ _ (r4.trans s6) (s6 _ _ hD4) ?_⟩
                rw [ha2, List.take_add_one, hd, List.map_append]
                show _ ++ [_] = _ ++ [V.bl (!decide (b.2 = d.2) && (M23.runI d.2 0 b.2).isSome)]
                rw [e, Bool.true_and]
              · refine c2 _ _ r4 hD4 ?_
                rw [ha2, List.take_add_one, hd, List.map_append]
                show _ ++ [_] = _ ++ [V.bl (!decide (b.2 = d.2) && (M23.runI d.2 0 b.2).isSome)]
                rw [Bool.eq_false_iff.mpr e, Bool.false_and]
            · subst ha2
              rw [hcs, List.take_length] at hD4
              refine ⟨D3, cs.map fun d => !decide (b.2 = d.2) && (M23.runI d.2 0 b.2).isSome, rfl, .inl (.inl (by rw [hD4, List.map_map]; rfl)), ?_⟩
              rw [List.any_map]
              refine ⟨_, rfl, ?_⟩
              cases hany : cs.any (id ∘ fun d => !decide (b.2 = d.2) && (M23.runI d.2 0 b.2).isSome) with
              | true =>
                have hany' : (cs.any fun d => !decide (b.2 = d.2) && (M23.runI d.2 0 b.2).isSome) = true := hany
                rw [hany', if_neg (by decide), List.append_nil] at n
                exact ite_f (by decide) (n _ (r.trans r4) (r4 _ _ hD) ha)
              | false =>
                have hany' : (cs.any fun d => !decide (b.2 = d.2) && (M23.runI d.2 0 b.2).isSome) = false := hany
                rw [hany', if_pos (by decide)] at c
                refine ite_t (by decide) ⟨_, rfl, c _ _ (r.trans r4) (r4 _ _ hD) ?_⟩
                rw [ha]
                unfold rfs
                rw [List.map_append]
                rfl
          · subst ha
            rw [hcs, List.take_length] at hD
            exact k2 H2 r D2 _ (np2 _ nD2) hD (fun x hx => (List.mem_filter.mp hx).1) (filter_kept cs _ hcan)
end
end Lw
namespace Lw
open PySem PySem.Spec PyProof.Rows L3
open L2 hiding del del_same del_ne
/-- products as a tuple, as a list -/
def dPT (kp : List M23.Pd) : PyData := .tuple (kp.map M23.dP)
def dPL (kp : List M23.Pd) : PyData := .list (kp.map M23.dP)
/-- a sum at a -/
structure SumO (C : Addr) (K : PySem.W.Frag) (H : Hp) (a : Addr) (sg : List Nat) (kp : List M23.Pd) : Prop where
  at_ : ∃ dx t, H a = some (.ins C dx [("own_letters", tx sg), ("own_products", .ref t)]) ∧ Dp K H (.ref t) (dPT kp)
theorem SumO.same {C : Addr} {K : PySem.W.Frag} {H H' : Hp} {a : Addr} {sg : List Nat} {kp : List M23.Pd} (h : SumO C K H a sg kp) (s : Same H H') : SumO C K H' a sg kp := by
  obtain ⟨⟨dx, t, h1, h2⟩⟩ := h
  exact ⟨⟨dx, t, s _ _ h1, Dp.same s h2⟩⟩
section
variable {P : Program} {w : World} {K : PySem.W.Frag} {mg : Str → Option Value} {base : Heap}
theorem aps {H : Hp} : ∀ {ps : List M23.Pd} {xs : List V}, DpAll K H xs (ps.map M23.dP) → ∃ bs : List AP, xs = rfs bs ∧ bs.map Prod.snd = ps ∧ Prods K H bs
  | [], _, .nil => ⟨[], rfl, rfl, fun b h => by cases h⟩
  | p :: ps, _, .cons h1 h2 => by
    obtain ⟨bs, rfl, rfl, h3⟩ := aps h2
    obtain ⟨a, rfl, h4⟩ := dp_pd h1
    exact ⟨(a, p) :: bs, rfl, rfl, fun b hb => by
      rcases List.mem_cons.mp hb with rfl | hb
      · exact h4
      · exact h3 b hb⟩
theorem aps_dp {H : Hp} : ∀ {bs : List AP}, Prods K H bs → DpAll K H (rfs bs) ((bs.map Prod.snd).map M23.dP)
  | [], _ => .nil
  | b :: bs, h => .cons (pd_dp (h b List.mem_cons_self)) (aps_dp fun c hc => h c (List.mem_cons_of_mem _ hc))
/-- products handed in: a list or a tuple -/
def Bun (K : PySem.W.Frag) (H : Hp) (v : V) (ps : List M23.Pd) : Prop := ∃ bs : List AP, Sq K H v (rfs bs) ∧ bs.map Prod.snd = ps ∧ Prods K H bs
theorem Prods.same {H H' : Hp} {bs : List AP} (h : Prods K H bs) (s : Same H H') : Prods K H' bs := fun b hb => sqT_same (h b hb) s
theorem Bun.same {H H' : Hp} {v : V} {ps : List M23.Pd} (h : Bun K H v ps) (s : Same H H') : Bun K H' v ps := by
  obtain ⟨bs, h1, h2, h3⟩ := h
  exact ⟨bs, h1.same s, h2, h3.same s⟩
def spWantLets : Sp := fun vs H Q _ => ∃ sg, vs = [tx sg] ∧ Lets sg ∧ ∀ H', Same H H' → Q .non H'
theorem ok_want_letters (T : All K mg) : FnOk P w K mg base CX0 3 T.f_want_letters T.d_want_letters ["letters"] spWantLets := by
  refine T.want_letters.F.ok sc_want_letters (fun vs H Q E h => ?_) (fun cdv A outer s H vs Q E hr h => ?_)
  · obtain ⟨sg, rfl, _⟩ := h
    rfl
  · obtain ⟨sg, rfl, hl, q⟩ := h
    refine ⟨_, pss_one (ps_if (pt_not (pt_val (pe_call (ok_are_letters T) (hr.mono (by decide)) (by rfl) T.are_letters.g T.are_letters.F.kp T.are_letters.b .nil pass0 (pa_cons (pv 0) pa_nil)))) (pss_one ps_never) pss_nil), ?_⟩
    exact ⟨_, rfl, sg, rfl, hl, fun H1 s1 => ⟨true, rfl, ite_f (by decide) (q _ s1)⟩⟩
def spSumInit (K : PySem.W.Frag) (C : Addr) : Sp := fun vs H Q _ => ∃ (x dx : Addr) (sg : List Nat) (v : V) (ps : List M23.Pd), vs = [.ref x, tx sg, v] ∧ H x = some (.ins C dx []) ∧ Lets sg ∧ Bun K H v ps ∧ (∀ p ∈ ps, PdOk sg p) ∧ ps.length ≤ 40 ∧ (∀ p ∈ ps, p.length ≤ 100) ∧
  ∀ H', (∀ b o, H b = some o → b ≠ x → H' b = some o) → SumO C K H' x sg (M23.kept ps) → Q .non H'
theorem ok_Sum_init (T : All K mg) : FnOk P w K mg base CX0 8 T.f_Sum_init T.d_Sum_init ["self", "letters", "products"] (spSumInit K T.C_Sum) := by
  refine T.Sum_init.F.ok sc_Sum_init (fun vs H Q E h => ?_) (fun cdv A outer s H vs Q E hr h => ?_)
  · obtain ⟨x, dx, sg, v, ps, rfl, _⟩ := h
    rfl
  · obtain ⟨x, dx, sg, v, ps, rfl, hx, hl, hB, hok, hz, hz2, q⟩ := h
    refine ⟨_, pss_cons (ps_expr (pe_call (ok_want_letters T) (hr.mono (by decide)) (by rfl) T.want_letters.g T.want_letters.F.kp T.want_letters.b .nil pass0 (pa_cons (pv 1) pa_nil)))
      (pss_cons (ps_if (pt_not (pt_val (pe_call (ok_is_list T) (hr.mono (by decide)) (by rfl) T.is_list.g T.is_list.F.kp T.is_list.b .nil pass0 (pa_cons (pv 2) pa_nil)))) (pss_one ps_never) pss_nil)
      (pss_cons (ps_for PassesOwn.never rfl (pi_enumS rfl T.b_enumerate (pa_cons (pv 2) pa_nil)) (pg_tup rfl (pgs_cons (pg_name (i := 3) sc_Sum_init.nd rfl (by first | exact Or.inl rfl | exact Or.inr rfl)) (pgs_cons (pg_name (i := 4) sc_Sum_init.nd rfl (by first | exact Or.inl rfl | exact Or.inr rfl)) pgs_nil)))
        (pss_one (ps_if (pt_not (pt_val (pe_call (ok_is_product_over T) (hr.mono (by decide)) (by rfl) T.is_product_over.g T.is_product_over.F.kp T.is_product_over.b .nil pass0 (pa_cons (pv 1) (pa_cons (pv 4) pa_nil))))) (pss_one ps_never) pss_nil)))
      (pss_cons (ps_set (i := 5) sc_Sum_init.nd rfl (by first | exact Or.inl rfl | exact Or.inr rfl) (pe_call (ok_kept_of T) (hr.mono (by decide)) (by rfl) T.kept_of.g T.kept_of.F.kp T.kept_of.b .nil pass0 (pa_cons (pv 2) pa_nil)))
      (pss_cons (ps_expr (pe_call (ok_want_few T) (hr.mono (by decide)) (by rfl) T.want_few.g T.want_few.F.kp T.want_few.b .nil pass0 (pa_cons pe_str (pa_cons (pe_callB call_len_seq (by rfl) T.b_len PySem.boot_len (pa_cons (pv 5) pa_nil)) (pa_cons (ClX.pe_cval (pe_glob (v := .ref T.C_Sum) rfl T.g_Sum rfl)) pa_nil)))))
      (pss_cons (ps_fld (pv 0) (pv 1) rfl)
      (pss_one (ps_fld (pv 0) (pe_callTy call_tuple_of (by rfl) T.b_tuple (show bootBuiltins "tuple" = some (.type "tuple") by decide +kernel) (pa_cons (pv 5) pa_nil)) rfl))))))), ?_⟩
    refine ⟨_, rfl, sg, rfl, hl, fun H1 s1 => ?_⟩
    obtain ⟨bs, hS, hps, hP⟩ := hB
    refine ⟨_, rfl, v, rfs bs, rfl, hS.same s1, fun H2 s2 => ⟨true, rfl, iteF ?_⟩⟩
    have s12 := s1.trans s2
    obtain ⟨aa, rfl, hSS⟩ := id hS
    obtain ⟨y, ey, hy⟩ := sq_src hS
    refine ⟨_, rfl, y, rfs bs, congrArg (fun z => [z]) ey, hy _ s12, for_it walk_enumS (fun i σ H' => ∃ p r, σ = [some (.ref x), some (tx sg), some (.ref aa), p, r, none] ∧ Same H H') ⟨none, none, rfl, s12⟩ (fun i σ H' _ p => by obtain ⟨_, _, _, sm⟩ := p; exact hy _ sm) (fun i x' σ H3 H4 hi p y => ?_) (fun σ H3 p => ?_)⟩
    · obtain ⟨p0, r0, rfl, sm⟩ := p
      obtain ⟨Tp, x1, x2, rfl, nT, rfl, e1, e2⟩ := y
      cases e1
      have e2 : (rfs bs)[i]? = some x2 := e2
      rw [show (rfs bs)[i]? = (bs[i]?).map fun b => V.ref b.1 from List.getElem?_map] at e2
      obtain ⟨b, hb, rfl⟩ := Option.map_eq_some_iff.mp e2
      have hbm := List.mem_of_getElem? hb
      have sm2 := same_up (o := .tup [.int (i : Nat), .ref b.1]) sm (sm.free nT)
      have hpm : b.2 ∈ ps := hps ▸ List.mem_map_of_mem hbm
      refine ⟨Tp, _, rfl, .inl (.inl upd_same), rfl, _, _, rfl, _, _, rfl, rfl, ?_⟩
      refine ⟨_, rfl, _, rfl, sg, .ref b.1, b.2, rfl, hl, hok _ hpm, Nat.le_trans (hz2 _ hpm) (by decide), pd_dp (sqT_same (hP b hbm) sm2), fun H5 s5 => ⟨true, rfl, iteF ⟨_, _, rfl, sm2.trans s5⟩⟩⟩
    · obtain ⟨p0, r0, rfl, s3⟩ := p
      have hbz : bs.length ≤ 40 := by rw [← hps, List.length_map] at hz; exact hz
      refine ⟨_, rfl, aa, bs, rfl, hSS.elim (fun h => .inl (sq_same h s3)) (fun h => .inr (sqT_same h s3)), hP.same s3, hbz, fun b hb => hz2 _ (hps ▸ List.mem_map_of_mem hb), fun b hb y hy' => (hok _ (hps ▸ List.mem_map_of_mem hb) y hy').tx hl, fun H4 kp cs s4 nk hk hpr hcs => ?_⟩
      have s34 := s3.trans s4
      rw [hps] at hcs
      have hcl : cs.length ≤ 40 := by
        have := M23.kept_len ps
        rw [← hcs, List.length_map] at this
        omega
      obtain ⟨tk, hcv⟩ := T.cv_Sum_MOST_PRODUCTS
      refine ⟨_, rfl, kp, rfs cs, rfl, .inl (.inl (.inl hk)), T.C_Sum, _, _, _, rfl, T.cr_Sum, hcv, _, _, _, rfl, by unfold rfs; rw [List.length_map]; omega, ?_⟩
      refine ⟨_, rfl, _, rfl, x, T.C_Sum, dx, [], rfl, s34 _ _ hx, T.cl_Sum, T.n_Sum_own_letters, by decide, ?_⟩
      have hx4 := s34 _ _ hx
      have nkx : kp ≠ x := fun e => by rw [e, s3 _ _ hx] at nk; cases nk
      refine ⟨_, rfl, kp, rfs cs, rfl, .inl ⟨.inl (.inl (by rw [upd_ne nkx]; exact hk)), fun t nt => ?_⟩⟩
      have ntx : x ≠ t := fun e => by rw [← e, upd_same] at nt; cases nt
      have nt4 : H4 t = none := by rw [upd_ne ntx.symm] at nt; exact nt
      refine ⟨_, rfl, x, T.C_Sum, dx, _, rfl, by rw [upd_ne ntx, upd_same], T.cl_Sum, T.n_Sum_own_products, putF_lt (n := 0) (Nat.zero_le _) (by decide), ?_⟩
      have sd : Same (del H4 x) (upd (upd (upd H4 x (.ins T.C_Sum dx (putF "own_letters" (tx sg) []))) t (.tup (rfs cs))) x (.ins T.C_Sum dx (putF "own_products" (.ref t) (putF "own_letters" (tx sg) [])))) := fun b o e => by
        have nb : b ≠ x := fun z => by rw [z, del_at] at e; cases e
        rw [del_ne nb] at e
        rw [upd_ne nb, upd_ne (ne_of_none e nt4), upd_ne nb]
        exact e
      refine q _ (fun b o e nb => sd _ _ (by rw [del_ne nb]; exact s34 _ _ e)) ⟨⟨dx, t, upd_same, .tup (.inl (.inl (by rw [upd_ne ntx.symm, upd_same]))) ?_⟩⟩
      have ha := aps_dp hpr
      rw [hcs] at ha
      exact DpAll.same sd (dpAll_del hx4 ha)
end
end Lw
namespace L3
open PySem PySem.Spec PyProof.Rows L2
end L3
namespace Lw
open PySem PySem.Spec PyProof.Rows L3
open L2 hiding del del_same del_ne
/-- products that can be told -/
def Few (kp : List M23.Pd) : Prop := kp.length ≤ 40 ∧ ∀ p ∈ kp, p.length ≤ 20 ∧ ∀ y ∈ p, TxOk y
theorem wt_dPL {kp : List M23.Pd} (h : Few kp) : Wt (dPL kp) (221 * 40) 2 := by
  refine Wt.list (w := 220) (k := 1) (fun d hd => ?_) (by rw [List.length_map]; exact h.1)
  obtain ⟨p, hp, rfl⟩ := List.mem_map.mp hd
  exact wt_dP (h.2 p hp).2 (h.2 p hp).1
theorem dpT_at {K : PySem.W.Frag} {H : Hp} {a : Addr} {kp : List M23.Pd} (h : Dp K H (.ref a) (dPT kp)) : ∃ bs : List AP, SqT K H a (rfs bs) ∧ bs.map Prod.snd = kp ∧ Prods K H bs := by
  obtain ⟨b, xs, e, h1, h2⟩ := dp_tuple h
  cases e
  obtain ⟨bs, rfl, h3, h4⟩ := aps h2
  exact ⟨bs, h1, h3, h4⟩
section
variable {P : Program} {w : World} {K : PySem.W.Frag} {mg : Str → Option Value} {base : Heap}
def spSumLetters (K : PySem.W.Frag) (C : Addr) : Sp := fun vs H Q _ => ∃ a sg kp, vs = [.ref a] ∧ SumO C K H a sg kp ∧ Q (tx sg) H
theorem ok_Sum_letters (T : All K mg) : FnOk P w K mg base CX0 1 T.f_Sum_letters T.d_Sum_letters ["self"] (spSumLetters K T.C_Sum) := by
  refine T.Sum_letters.F.ok sc_Sum_letters (fun vs H Q E h => ?_) (fun cdv A outer s H vs Q E hr h => ?_)
  · obtain ⟨a, sg, kp, rfl, _⟩ := h
    rfl
  · obtain ⟨a, sg, kp, rfl, hM, q⟩ := h
    obtain ⟨dx, t, hat, hd⟩ := hM.at_
    refine ⟨_, pss_one (ps_ret (pe_fld (pv 0) rfl)), ?_⟩
    exact ⟨_, rfl, a, T.C_Sum, dx, _, _, rfl, hat, T.cl_Sum, T.n_Sum_own_letters, rfl, q⟩
def spProducts (K : PySem.W.Frag) (C : Addr) : Sp := fun vs H Q _ => ∃ a sg kp, vs = [.ref a] ∧ SumO C K H a sg kp ∧ ∀ p (bs : List AP), H p = none → bs.map Prod.snd = kp → Prods K H bs → Q (.ref p) (upd H p (.lst (rfs bs)))
theorem ok_Sum_products (T : All K mg) : FnOk P w K mg base CX0 1 T.f_Sum_products T.d_Sum_products ["self"] (spProducts K T.C_Sum) := by
  refine T.Sum_products.F.ok sc_Sum_products (fun vs H Q E h => ?_) (fun cdv A outer s H vs Q E hr h => ?_)
  · obtain ⟨a, sg, kp, rfl, _⟩ := h
    rfl
  · obtain ⟨a, sg, kp, rfl, hM, q⟩ := h
    obtain ⟨dx, t, hat, hd⟩ := hM.at_
    obtain ⟨bs, h1, h2, h3⟩ := dpT_at hd
    refine ⟨_, pss_one (ps_ret (pe_callTy call_list_of (by rfl) T.b_list PyProof.Rows.boot_list (pa_cons (pe_fld (pv 0) rfl) pa_nil))), ?_⟩
    exact ⟨_, rfl, a, T.C_Sum, dx, _, _, rfl, hat, T.cl_Sum, T.n_Sum_own_products, rfl, t, _, rfl, .inr h1, fun p np => q p bs np h2 h3⟩
def spIn (K : PySem.W.Frag) (C : Addr) : Sp := fun vs H Q _ => ∃ (a : Addr) (v : V) (sg : List Nat) (kp : List M23.Pd), vs = [.ref a, v] ∧ SumO C K H a sg kp ∧ Few kp ∧
  ((∃ t, v = tx t ∧ t.length ≤ 2000 ∧ ∀ H', Same H H' → Q (.bl ((t.all fun c => decide (c ∈ sg)) && kp.any fun p => (M23.runI p 0 (M23.tP t)).isSome)) H') ∨ ∃ ty, TyX K H v ty ∧ PySem.W.kitOne K ty (.type "str") = some false ∧ Q (.bl false) H)
theorem ok_Sum_contains (T : All K mg) : FnOk P w K mg base CX0 7 T.f_Sum_contains T.d_Sum_contains ["self", "value"] (spIn K T.C_Sum) := by
  refine T.Sum_contains.F.ok sc_Sum_contains (fun vs H Q E h => ?_) (fun cdv A outer s H vs Q E hr h => ?_)
  · obtain ⟨a, v, sg, kp, rfl, _⟩ := h
    rfl
  · obtain ⟨a, v, sg, kp, rfl, hM, hf, hh⟩ := h
    obtain ⟨dx, t0, hat, hd⟩ := hM.at_
    refine ⟨_, pss_one (ps_ret (pe_and (pe_call (ok_is_text_over T) (hr.mono (by decide)) (by rfl) T.is_text_over.g T.is_text_over.F.kp T.is_text_over.b .nil pass0 (pa_cons (pe_fld (pv 0) rfl) (pa_cons (pv 1) pa_nil)))
        (pe_one (pe_callB (cr_any rfl) (by rfl) T.b_any PyProof.Rows.boot_any (pa_cons (pe_lc (own := [("one", 2)]) (g := gName 2) (tt := tYes) rfl sc_Sum_contains.nd (pi_tup (pe_fld (pv 0) rfl))
          (blkOk_by (own := [("one", 2)]) (N := ["self", "value", "one"]) (sc := defScope s_Sum_contains) (by decide +kernel))
          (fun _ _ _ _ _ => pg_name (i := 2) sc_Sum_contains.nd rfl (by first | exact Or.inl rfl | exact Or.inr rfl)) (fun _ _ _ _ _ => pts_nil)
          (fun _ _ _ _ _ => (pe_call (ok_has_text T) (hr.mono (by decide)) (by rfl) T.has_text.g T.has_text.F.kp T.has_text.b .nil pass0 (pa_cons (pv 2) (pa_cons (pv 1) pa_nil))))) pa_nil))))), ?_⟩
    dsimp only [cxOf]
    refine ⟨_, rfl, a, T.C_Sum, dx, _, _, rfl, hat, T.cl_Sum, T.n_Sum_own_letters, rfl, _, rfl, sg, v, rfl, ?_⟩
    rcases hh with ⟨t, rfl, hz, q⟩ | ⟨ty, hty, hk, q⟩
    · refine .inl ⟨t, rfl, hz, fun H1 s1 => ⟨_, rfl, ?_⟩⟩
      cases hall : (t.all fun c => decide (c ∈ sg)) with
      | false =>
        refine iteF ?_
        rw [hall] at q
        exact q _ s1
      | true =>
        rw [hall] at q
        refine iteT ?_
        obtain ⟨bs, h1, h2, h3⟩ := dpT_at hd
        refine ⟨_, rfl, a, T.C_Sum, dx, _, _, rfl, s1 _ _ hat, T.cl_Sum, T.n_Sum_own_products, rfl, t0, rfl, ⟨_, sqT_same h1 s1⟩, fun D nD => ?_⟩
        have hbl : (rfs bs).length = bs.length := List.length_map _
        have hbk : bs.length ≤ 40 := by have := hf.1; rw [← h2, List.length_map] at this; exact this
        refine lc_gen (walk_tup (xs := rfs bs)) (Same H1) (fun j acc => acc = (bs.take j).map fun b => V.bl (M23.runI b.2 0 (M23.tP t)).isSome) (sz (by rw [hbl]; omega)) (fun i acc e => by rw [e, List.length_map, List.length_take]; omega) rfl (same_upd nD) (fun _ _ h => same_up h nD) (fun _ h => sqT_same h1 (s1.trans h)) (fun j x H4 H5 acc C N hj r hD ha y c n => ?_) (fun H4 xs r hD ha => ?_)
        · obtain ⟨rfl, yy⟩ := y
          rw [show (rfs bs)[j]? = (bs[j]?).map fun b => V.ref b.1 from List.getElem?_map] at yy
          obtain ⟨b, hb, rfl⟩ := Option.map_eq_some_iff.mp yy
          have hbm := List.mem_of_getElem? hb
          have hz2 := hf.2 b.2 (h2 ▸ List.mem_map_of_mem hbm)
          refine ⟨rfl, yes_te ?_⟩
          refine ⟨_, rfl, _, rfl, _, t, b.2, rfl, pd_dp (sqT_same (h3 b hbm) (s1.trans r)), Nat.le_trans hz2.1 (by decide), fun y hy => (hz2.2 y hy).2, hz, fun H6 s6 => c _ _ (r.trans s6) (s6 _ _ hD) ?_⟩
          rw [ha, List.take_add_one, hb, List.map_append]
          rfl
        · subst ha
          rw [hbl, List.take_length] at hD
          refine ⟨D, bs.map fun b => (M23.runI b.2 0 (M23.tP t)).isSome, rfl, .inl (.inl (by rw [hD, List.map_map]; rfl)), ?_⟩
          have e : (bs.map fun b => (M23.runI b.2 0 (M23.tP t)).isSome).any id = kp.any fun p => (M23.runI p 0 (M23.tP t)).isSome := by
            rw [← h2, List.any_map, List.any_map]
            rfl
          rw [e]
          have := q _ (s1.trans r)
          rw [Bool.true_and] at this
          exact this
    · exact .inr ⟨ty, hty, hk, false, rfl, iteF q⟩
end
end Lw
namespace Lw
open PySem PySem.Spec PyProof.Rows L3
open L2 hiding del del_same del_ne
open L2 hiding del del_same del_ne
/-- all but lists stays -/
def NL (H H' : Hp) : Prop := ∀ p o, H p = some o → (∀ xs, o ≠ .lst xs) → H' p = some o
theorem NL.same {H H' : Hp} (s : Same H H') : NL H H' := fun p o e _ => s p o e
theorem NL.trans {H H1 H2 : Hp} (a : NL H H1) (b : NL H1 H2) : NL H H2 := fun p o e n => b p o (a p o e n) n
theorem NL.upd {H : Hp} {p : Addr} {xs : List V} {o : HO} (h : H p = some (.lst xs)) : NL H (L2.upd H p o) := fun b u e n => by
  rw [upd_ne (ne_of e h fun z => n xs z)]; exact e
theorem sqT_nl {K : PySem.W.Frag} {H H' : Hp} {a : Addr} {xs : List V} (h : SqT K H a xs) (n : NL H H') : SqT K H' a xs := by
  rcases h with (h | ⟨o, h⟩) | h
  · exact .inl (.inl (n _ _ h (fun ps z => by cases z)))
  · exact .inl (.inr ⟨o, n _ _ h (fun ps z => by cases z)⟩)
  · exact .inr h
theorem dTR_nl {K : PySem.W.Frag} {H H' : Hp} {v : V} {R : List (List Nat)} (h : Dp K H v (dTR R)) (n : NL H H') : Dp K H' v (dTR R) := by
  obtain ⟨a, xs, rfl, hS, hA⟩ := dp_tuple h
  refine .tup (sqT_nl hS n) (dpAll_of (dpAll_len hA) fun i x d h1 h2 => ?_)
  obtain ⟨d', h3, h4⟩ := dpAll_back hA h1
  rw [h2] at h3
  cases h3
  rw [List.getElem?_map] at h2
  obtain ⟨r, _, rfl⟩ := Option.map_eq_some_iff.mp h2
  obtain ⟨b, ys, rfl, hS2, hA2⟩ := dp_tuple h4
  rw [dpAll_nats hA2] at hS2
  exact .tup (sqT_nl hS2 n) (dpAll_nV r)
theorem Mach.nl {C : Addr} {K : PySem.W.Frag} {H H' : Hp} {a : Addr} {sg : List Nat} {R : List (List Nat)} {k : List Bool} (h : Mach C K H a sg R k) (e : NL H H') : Mach C K H' a sg R k := by
  obtain ⟨⟨dx, r, q, h1, h2, h3⟩, h4, h5⟩ := h
  exact ⟨⟨dx, r, q, e _ _ h1 (fun ps z => by cases z), dTR_nl h2 e, sqT_nl h3 e⟩, h4, h5⟩
theorem make_ok {K : PySem.W.Frag} {C : Addr} {H : Hp} {sg : List Nat} {a b : V} {R : List (List Nat)} {k : List Bool} (hl : Lets sg) (hR : Rw K H a R) (hk : Sq K H b (k.map V.bl)) (hG : M14.Good sg.length R k) {x dx : Addr} (nx : H x = none) (ndx : H dx = none) {Qh : Hp → Prop} (q : ∀ H', Same H H' → Mach C K H' x sg R k → Qh H') :
    spInit K C [.ref x, tx sg, a, b] (L2.upd (L2.upd H dx (.own x)) x (.ins C dx [])) (fun v H2 => v = .non ∧ Qh H2) E0 := by
  have sU : Same H (L2.upd (L2.upd H dx (.own x)) x (.ins C dx [])) := same_up (same_upd ndx) nx
  exact ⟨x, dx, sg, a, b, R, k, rfl, upd_same, hl, hR.same sU, hk.same sU, hG, fun H' hk' hM' => ⟨rfl, q H' (Same.made nx ndx hk') hM'⟩⟩
theorem any_id_rep (n : Nat) : (List.replicate n false).any id = false := by
  induction n with
  | zero => rfl
  | succ n ih => rw [List.replicate_succ, List.any_cons, ih]; rfl
end Lw
namespace Lw
open PySem PySem.Spec PyProof.Rows L3
open L2 hiding del del_same del_ne
section
variable {P : Program} {w : World} {K : PySem.W.Frag} {mg : Str → Option Value} {base : Heap}
/-- a pot: two numbers -/
def Pot (H : Hp) (a : Addr) : Prop := ∃ x y : Int, H a = some (.lst [.int x, .int y]) ∧ 0 ≤ x ∧ 0 ≤ y ∧ y < 4294967296
/-- all but a stays -/
def Off (a : Addr) (H H' : Hp) : Prop := ∀ b o, H b = some o → b ≠ a → H' b = some o
theorem Off.refl (a : Addr) (H : Hp) : Off a H H := fun _ _ e _ => e
theorem Off.trans {a : Addr} {H H1 H2 : Hp} (x : Off a H H1) (y : Off a H1 H2) : Off a H H2 := fun b o e n => y b o (x b o e n) n
theorem Off.of {a : Addr} {H H' : Hp} (s : Same H H') : Off a H H' := fun b o e _ => s b o e
theorem Off.up {a p : Addr} {H H' : Hp} {o : HO} (x : Off a H H') (h : H p = none) : Off a H (upd H' p o) := fun b u e n => by
  rw [upd_ne (ne_of_none e h)]
  exact x b u e n
theorem Off.at {a : Addr} {H H' : Hp} {o : HO} (x : Off a H H') : Off a H (upd H' a o) := fun b u e n => by
  rw [upd_ne n]
  exact x b u e n
theorem Pot.some {H : Hp} {a : Addr} (h : Pot H a) : H a ≠ none := fun e => by
  obtain ⟨x, y, h, _⟩ := h
  rw [e] at h
  cases h
theorem Off.free {a : Addr} {H H' : Hp} (x : Off a H H') {l : Addr} (h : H' l = none) (hp : Pot H' a) : H l = none := by
  cases q : H l with
  | none => rfl
  | some o =>
    by_cases e : l = a
    · subst e
      exact absurd h hp.some
    · rw [x l o q e] at h
      cases h
theorem Off.seq {K : PySem.W.Frag} {a l : Addr} {H H' : Hp} {xs : List V} (x : Off a H H') (n : l ≠ a) (h : SqL K H l xs) : SqL K H' l xs := by
  rcases h with (h | ⟨o, h⟩) | h
  · exact .inl (.inl (x _ _ h n))
  · exact .inl (.inr ⟨o, x _ _ h n⟩)
  · exact .inr h
def spPot (K : PySem.W.Frag) : Sp := fun vs H Q _ => ∃ (a : Addr) (ns : List Int) (k : Nat), vs = [.ref a, .int (k : Int)] ∧ SqL K H a (ns.map V.int) ∧ k ≤ 10 ∧ ∀ H' p, Same H H' → H p = none → Pot H' p → Q (.ref p) H'
theorem pot_fin {H : Hp} {p : Addr} {z : Int} (x : Int) : Pot (upd H p (.lst [.int (if x > 0 then x else 0), .int (z % 2147483549 + 1)])) p := by
  refine ⟨_, _, upd_same, ?_, ?_, ?_⟩
  · split <;> omega
  · omega
  · omega
theorem ok_law_pot (T : All K mg) : FnOk P w K mg base CX0 1 T.f_law_pot T.d_law_pot ["_law_script", "_law_k"] (spPot K) := by
  refine T.law_pot.F.ok sc_law_pot (fun vs H Q E h => ?_) (fun cdv A outer s H vs Q E hr h => ?_)
  · obtain ⟨a, ns, k, rfl, _⟩ := h
    rfl
  · obtain ⟨a, ns, k, rfl, hS, hk, q⟩ := h
    refine ⟨_, pss_cons (ps_set (i := 2) sc_law_pot.nd rfl (.inl rfl) (pe_op op_add (pe_op op_mul pe_int (pv 1)) pe_int))
      (pss_cons (ps_if (pt_cmpR op_lt (pv 1) (pe_callB call_len_seq (by rfl) T.b_len PySem.boot_len (pa_cons (pv 0) pa_nil)) (nomark _))
        (pss_one (ps_set (i := 2) sc_law_pot.nd rfl (.inl rfl) (pe_callB call_abs (by rfl) T.b_abs PyProof.Rows.boot_abs (pa_cons (pe_ix ix_list (pv 0) (pv 1) (fun _ _ => rfl)) pa_nil)))) pss_nil)
      (pss_one (ps_ret (pe_lst (pa_cons (pe_callB (call_max2 rfl) (by rfl) T.b_max PyProof.Rows.boot_max (pa_cons pe_int (pa_cons (pe_op op_sub (pv 2) (pe_op op_pow pe_int pe_int)) pa_nil)))
        (pa_cons (pe_op op_add (pe_op op_mod (pe_callTy call_int1 (by rfl) T.b_int PyProof.Rows.boot_int (pa_cons (pe_op op_add (pe_op op_mul (pe_op op_mod (pe_callTy call_int1 (by rfl) T.b_int PyProof.Rows.boot_int (pa_cons (pv 2) pa_nil)) pe_int) (pe_op op_add (pe_op op_mul pe_int (pv 1)) pe_int)) pe_int) pa_nil)) pe_int) pe_int) pa_nil)))))), ?_⟩
    refine ⟨_, rfl, _, _, rfl, rfl, .inl ⟨by decide, by decide⟩, _, _, rfl, rfl, ?_⟩
    refine ⟨_, rfl, _, rfl, a, ns.map V.int, rfl, .inl hS, _, _, rfl, rfl, _, rfl, ite2 (fun e => ?_) (fun e => ?_)⟩
    · have hlt : k < ns.length := by
        have := of_decide_eq_true e
        rw [List.length_map] at this
        omega
      refine ⟨_, rfl, _, rfl, a, _, _, .int ns[k], rfl, rfl, hS, atI_nat (by rw [List.getElem?_map, List.getElem?_eq_getElem hlt]; rfl), _, rfl, ?_⟩
      refine ⟨_, rfl, 10, 18, rfl, rfl, ⟨by decide, by decide, by decide⟩, _, _, rfl, rfl, _, _, rfl, ?_⟩
      refine ⟨_, rfl, .inl ⟨_, rfl, _, _, rfl, rfl, (by show (0 : Int) < 2147483563; decide), _, rfl, _, _, rfl, rfl, .inl ⟨by decide, by decide⟩, _, _, rfl, rfl, _, _, rfl, rfl, .inr ⟨by omega, by omega⟩, _, _, rfl, rfl,
        .inl ⟨_, rfl, _, _, rfl, rfl, (by show (0 : Int) < 2147483549; decide), _, _, rfl, rfl, (by show 2 ≤ sizeLine; decide), fun p np => ?_⟩⟩⟩
      exact q _ p (same_upd np) np (pot_fin _)
    · refine ⟨_, rfl, 10, 18, rfl, rfl, ⟨by decide, by decide, by decide⟩, _, _, rfl, rfl, _, _, rfl, ?_⟩
      refine ⟨_, rfl, .inl ⟨_, rfl, _, _, rfl, rfl, (by show (0 : Int) < 2147483563; decide), _, rfl, _, _, rfl, rfl, .inl ⟨by decide, by decide⟩, _, _, rfl, rfl, _, _, rfl, rfl, .inr ⟨by omega, by omega⟩, _, _, rfl, rfl,
        .inl ⟨_, rfl, _, _, rfl, rfl, (by show (0 : Int) < 2147483549; decide), _, _, rfl, rfl, (by show 2 ≤ sizeLine; decide), fun p np => ?_⟩⟩⟩
      exact q _ p (same_upd np) np (pot_fin _)
def spDraw : Sp := fun vs H Q _ => ∃ (a : Addr) (n : Nat), vs = [.ref a, .int (n : Int)] ∧ Pot H a ∧ 0 < n ∧ n ≤ 1000000 ∧ ∀ (H' : Hp) (d : Nat), d < n → Pot H' a → Off a H H' → Q (.int (d : Int)) H'
theorem ix2_0 {x y : V} : ixN [x, y].length (0 : Int) = some 0 := rfl
theorem ix2_1 {x y : V} : ixN [x, y].length (1 : Int) = some 1 := rfl
theorem ok_law_draw (T : All K mg) : FnOk P w K mg base CX0 1 T.f_law_draw T.d_law_draw ["_law_pot_here", "_law_size"] spDraw := by
  refine T.law_draw.F.ok sc_law_draw (fun vs H Q E h => ?_) (fun cdv A outer s H vs Q E hr h => ?_)
  · obtain ⟨a, n, rfl, _⟩ := h
    rfl
  · obtain ⟨a, n, rfl, hp, hn, hn2, q⟩ := h
    obtain ⟨x, y, ha, hx, hy, hy2⟩ := hp
    refine ⟨_, pss_cons (ps_if (pt_cmpR op_gt (pe_ix ix_list (pv 0) pe_int (fun _ _ => rfl)) pe_int (nomark _))
        (pss_cons (ps_asg (pe_callB call_divmod (by rfl) T.b_divmod PyProof.Rows.boot_divmod (pa_cons (pe_ix ix_list (pv 0) pe_int (fun _ _ => rfl)) (pa_cons (pv 1) pa_nil))) (pg_tup (by rfl) (pgs_cons (pg_sub (pv 0) pe_int set_list) (pgs_cons (pg_name (i := 2) sc_law_draw.nd rfl (.inl rfl)) pgs_nil))))
        (pss_one (ps_ret (pv 2)))) pss_nil)
      (pss_cons (ps_asg (pe_op op_mod (pe_callTy call_int1 (by rfl) T.b_int PyProof.Rows.boot_int (pa_cons (pe_op op_add (pe_op op_mul (pe_ix ix_list (pv 0) pe_int (fun _ _ => rfl)) pe_int) pe_int) pa_nil)) pe_int) (pg_sub (pv 0) pe_int set_list))
      (pss_one (ps_ret (pe_op op_mod (pe_callTy call_int1 (by rfl) T.b_int PyProof.Rows.boot_int (pa_cons (pe_op op_fdiv (pe_op op_mod (pe_callTy call_int1 (by rfl) T.b_int PyProof.Rows.boot_int (pa_cons (pe_op op_mul (pe_ix ix_list (pv 0) pe_int (fun _ _ => rfl)) (pe_ix ix_list (pv 0) pe_int (fun _ _ => rfl))) pa_nil)) pe_int) pe_int) pa_nil)) (pv 1))))), ?_⟩
    refine ⟨_, rfl, a, _, _, .int x, rfl, rfl, .inl (.inl ha), rfl, _, _, rfl, rfl, _, rfl, ite2 (fun e => ?_) (fun e => ?_)⟩
    · -- the pot's own digits
      have hx0 : 0 < x := of_decide_eq_true e
      refine ⟨_, rfl, a, _, _, .int x, rfl, rfl, .inl (.inl ha), rfl, _, rfl, x, n, rfl, ⟨by omega, by omega⟩, fun t nt => ?_⟩
      have nat' : a ≠ t := ne_of_none ha nt
      have ha2 : upd H t (.tup [.int (x / n), .int (x % n)]) a = some (.lst [.int x, .int y]) := by rw [upd_ne nat']; exact ha
      refine ⟨t, _, rfl, .inl (.inl upd_same), rfl, _, _, rfl, _, rfl, a, _, _, 0, rfl, rfl, ha2, ix2_0, _, _, rfl, rfl, ?_⟩
      have h0 := Int.emod_nonneg x (show (n : Int) ≠ 0 by omega)
      have h1 := Int.emod_lt_of_pos x (show (0 : Int) < (n : Int) by omega)
      obtain ⟨d, hd⟩ := Int.eq_ofNat_of_zero_le h0
      refine ⟨_, rfl, ?_⟩
      rw [hd]
      refine q _ d (by omega) ⟨x / n, y, upd_same, Int.ediv_nonneg hx (by omega), hy, hy2⟩ (Off.at (Off.up (Off.refl a H) nt))
    · -- the mixed number
      refine ⟨_, rfl, a, _, _, .int y, rfl, rfl, .inl (.inl ha), rfl, y, _, rfl, rfl, .inl ⟨by omega, by omega⟩, _, _, rfl, rfl, .inl ⟨_, rfl, _, _, rfl, rfl, (by show (0 : Int) < 2147483587; decide), ?_⟩⟩
      refine ⟨_, rfl, a, _, _, 1, rfl, rfl, ha, ix2_1, ?_⟩
      have hz := Int.emod_nonneg (y * 48271 + 15061) (show (2147483587 : Int) ≠ 0 by decide)
      have hz2 := Int.emod_lt_of_pos (y * 48271 + 15061) (show (0 : Int) < 2147483587 by decide)
      obtain ⟨z, hz0⟩ : ∃ z, (y * 48271 + 15061) % 2147483587 = z := ⟨_, rfl⟩
      have hA : upd H a (.lst ([V.int x, V.int y].set 1 ((fun i j => V.int (i % j)) (y * 48271 + 15061) 2147483587))) a = some (.lst [.int x, .int z]) := by
        rw [upd_same]
        show some (HO.lst [V.int x, V.int ((y * 48271 + 15061) % 2147483587)]) = _
        rw [hz0]
      rw [hz0] at hz hz2
      refine ⟨_, rfl, a, _, _, .int z, rfl, rfl, .inl (.inl hA), rfl, _, rfl, a, _, _, .int z, rfl, rfl, .inl (.inl hA), rfl, z, z, rfl, rfl, .inl ⟨by omega, by omega⟩,
        .inl ⟨_, rfl, _, _, rfl, rfl, (by show (0 : Int) < 2147483543; decide), _, _, rfl, rfl, ⟨by decide, by decide⟩, .inl ⟨_, rfl, _, rfl, _, _, rfl, rfl, (by show (0 : Int) < (n : Int); omega), ?_⟩⟩⟩
      have h0 := Int.emod_nonneg (z * z % 2147483543 / 19) (show (n : Int) ≠ 0 by omega)
      have h1 := Int.emod_lt_of_pos (z * z % 2147483543 / 19) (show (0 : Int) < (n : Int) by omega)
      obtain ⟨d, hd⟩ := Int.eq_ofNat_of_zero_le h0
      show Q (.int (z * z % 2147483543 / 19 % (n : Int))) _
      rw [hd]
      exact q _ d (by omega) ⟨x, z, hA, hx, hz, by omega⟩ (Off.at (Off.refl a H))
def spPick (K : PySem.W.Frag) : Sp := fun vs H Q _ => ∃ (a : Addr) (x : V), vs = [.ref a, x] ∧ Pot H a ∧
  ((∃ l : List Nat, x = tx l ∧ l ≠ [] ∧ l.length ≤ 1000 ∧ ∀ (H' : Hp) (c : Nat), c ∈ l → Pot H' a → Off a H H' → Q (tx [c]) H') ∨
   ∃ (b : Addr) (xs : List V), x = .ref b ∧ b ≠ a ∧ SqL K H b xs ∧ xs ≠ [] ∧ xs.length ≤ 1000 ∧ ∀ (H' : Hp) (v : V), v ∈ xs → Pot H' a → Off a H H' → Q v H')
theorem ok_law_pick (T : All K mg) : FnOk P w K mg base CX0 2 T.f_law_pick T.d_law_pick ["_law_pot_here", "_law_some"] (spPick K) := by
  refine T.law_pick.F.ok sc_law_pick (fun vs H Q E h => ?_) (fun cdv A outer s H vs Q E hr h => ?_)
  · obtain ⟨a, x, rfl, _⟩ := h
    rfl
  · obtain ⟨a, x, rfl, hp, h⟩ := h
    refine ⟨_, pss_one (ps_ret (pe_ix ix_seq (pv 1) (pe_call (ok_law_draw T) hr (by rfl) T.law_draw.g T.law_draw.F.kp T.law_draw.b .nil pass0 (pa_cons (pv 0) (pa_cons (pe_callB call_len (by rfl) T.b_len PySem.boot_len (pa_cons (pv 1) pa_nil)) pa_nil))) (fun _ _ => rfl))), ?_⟩
    rcases h with ⟨l, rfl, hl, hl2, q⟩ | ⟨b, xs, rfl, hba, hS, hl, hl2, q⟩
    · have hpos : 0 < l.length := List.length_pos_iff.mpr hl
      refine ⟨_, rfl, _, rfl, _, rfl, _, l.length, rfl, ⟨by rw [tS_len, sizeLine_eq]; omega, (tS_len l).symm⟩, a, l.length, rfl, hp, hpos, by omega, fun H' d hd hp' ho => ?_⟩
      refine .inr (.inr ⟨_, _, l[d], rfl, rfl, by rw [tS_len, sizeLine_eq]; omega, atI_nat (by simp [hd]), ?_⟩)
      exact q H' l[d] (List.getElem_mem hd) hp' ho
    · have hpos : 0 < xs.length := List.length_pos_iff.mpr hl
      refine ⟨_, rfl, _, rfl, _, rfl, _, xs.length, rfl, .inl ⟨xs, hS, rfl⟩, a, xs.length, rfl, hp, hpos, by omega, fun H' d hd hp' ho => ?_⟩
      refine .inl ⟨b, xs, _, xs[d], rfl, rfl, ho.seq hba hS, atI_nat (List.getElem?_eq_getElem hd), ?_⟩
      exact q H' xs[d] (List.getElem_mem hd) hp' ho
theorem Pot.up {H : Hp} {a p : Addr} {o : HO} (h : Pot H a) (n : a ≠ p) : Pot (upd H p o) a := by
  obtain ⟨x, y, e, r⟩ := h
  exact ⟨x, y, by rw [upd_ne n]; exact e, r⟩
theorem Pot.ne {H : Hp} {a p : Addr} (h : Pot H a) (e : H p = none) : a ≠ p := fun z => h.some (by rw [z]; exact e)
theorem Pot.same {H H' : Hp} {a : Addr} (h : Pot H a) (s : Same H H') : Pot H' a := by
  obtain ⟨x, y, e, r⟩ := h
  exact ⟨x, y, s _ _ e, r⟩
theorem off_del {a : Addr} {H H' : Hp} (x : Off a H H') : Same (del H a) (del H' a) := fun b o e => by
  unfold del at e ⊢
  by_cases h : b = a
  · rw [if_pos h] at e; cases e
  · rw [if_neg h] at e ⊢; exact x b o e h
theorem del_new {H : Hp} {a p : Addr} {o : HO} (n : p ≠ a) : del (upd H p o) a = upd (del H a) p o := by
  funext c
  by_cases h1 : c = a
  · rw [h1, del_at, upd_ne n.symm, del_at]
  · rw [del_ne h1]
    by_cases h2 : c = p
    · rw [h2, upd_same, upd_same]
    · rw [upd_ne h2, upd_ne h2, del_ne h1]
end
end Lw
namespace Lw
open PySem PySem.Spec PyProof.Rows L3
open L2 hiding del del_same del_ne
section
variable {P : Program} {w : World} {K : PySem.W.Frag} {mg : Str → Option Value} {base : Heap}
theorem perm_erase {α : Type} : ∀ {l : List α} {k : Nat} (h : k < l.length), (l[k] :: l.eraseIdx k).Perm l
  | a :: l, 0, _ => List.Perm.refl _
  | a :: l, k + 1, h => by
    have hk : k < l.length := by simpa using h
    have ih := perm_erase (l := l) (k := k) hk
    show (l[k] :: a :: l.eraseIdx k).Perm (a :: l)
    exact (List.Perm.swap a _ _).trans (List.Perm.cons a ih)
def spMixed (K : PySem.W.Frag) : Sp := fun vs H Q _ => ∃ (a b : Addr) (l : List V), vs = [.ref a, .ref b] ∧ Pot H a ∧ (SqL K H b l ∨ SqT K H b l) ∧ l.length ≤ 1000 ∧ ∀ H' p l', l'.Perm l → Pot H' a → Off a H H' → H p = none → H' p = some (.lst l') → Q (.ref p) H'
theorem ok_law_mixed (T : All K mg) : FnOk P w K mg base CX0 2 T.f_law_mixed T.d_law_mixed ["_law_pot_here", "_law_some"] (spMixed K) := by
  refine T.law_mixed.F.ok sc_law_mixed (fun vs H Q E h => ?_) (fun cdv A outer s H vs Q E hr h => ?_)
  · obtain ⟨a, b, l, rfl, _⟩ := h
    rfl
  · obtain ⟨a, b, l, rfl, hp, hS, hl, q⟩ := h
    refine ⟨_, pss_cons (ps_par rfl sc_law_mixed.nd (i := 2) (j := 3) rfl rfl (by decide) rfl rfl (pa_cons (pe_callTy call_list_of (by rfl) T.b_list PyProof.Rows.boot_list (pa_cons (pv 1) pa_nil)) (pa_cons (pe_lst pa_nil) pa_nil)) (by rfl))
      (pss_cons (ps_for PassesOwn.never rfl (pi_range1 rfl T.b_range (pa_cons (pe_callB call_len_seq (by rfl) T.b_len PySem.boot_len (pa_cons (pv 2) pa_nil)) pa_nil)) (pg_name (i := 4) sc_law_mixed.nd rfl (by first | exact Or.inl rfl | exact Or.inr rfl))
        (pss_one (ps_expr (pe_bm PySem.F.plainAttrs_list PySem.F.slot_list_append PySem.F.type_list_append mt_append (pv 3) (pa_cons (pe_bm PySem.F.plainAttrs_list PySem.F.slot_list_pop PySem.F.type_list_pop mt_popAt (pv 2) (pa_cons (pe_call (ok_law_draw T) (hr.mono (by decide)) (by rfl) T.law_draw.g T.law_draw.F.kp T.law_draw.b .nil pass0 (pa_cons (pv 0) (pa_cons (pe_callB call_len_seq (by rfl) T.b_len PySem.boot_len (pa_cons (pv 2) pa_nil)) pa_nil))) pa_nil)) pa_nil)))))
      (pss_one (ps_ret (pv 3)))), ?_⟩
    refine ⟨_, rfl, b, _, rfl, hS, fun L nL => ⟨by show 0 ≤ sizeLine; decide, fun F nF => ⟨_, _, rfl, ?_⟩⟩⟩
    have naL : a ≠ L := hp.ne nL
    have nFL : L ≠ F := fun e => by rw [← e, upd_same] at nF; cases nF
    have nF0 : H F = none := by rw [upd_ne nFL.symm] at nF; exact nF
    have naF : a ≠ F := hp.ne nF0
    refine ⟨_, rfl, L, _, rfl, .inl (.inl (.inl (by rw [upd_ne nFL, upd_same]))), _, rfl, by omega, by omega, ?_⟩
    rw [show ((l.length : Int)).toNat = l.length by omega]
    refine for_it walk_range (fun i σ H' => ∃ t, σ = [some (.ref a), some (.ref b), some (.ref L), some (.ref F), t] ∧ Pot H' a ∧ Off a H H' ∧ ∃ l1 l2, H' L = some (.lst l1) ∧ H' F = some (.lst l2) ∧ l2.length = i ∧ l1.length + i = l.length ∧ (l2 ++ l1).Perm l)
      ⟨none, rfl, (hp.up naL).up naF, ((Off.refl a H).up nL).up nF0, l, [], by rw [upd_ne nFL, upd_same], upd_same, rfl, rfl, List.Perm.refl _⟩ (fun _ _ _ _ _ => trivial) (fun i x σ H2 H3 hi p y => ?_) (fun σ H2 p => ?_)
    · obtain ⟨t0, rfl, hp2, ho2, l1, l2, hL, hF, e1, e2, hpm⟩ := p
      obtain ⟨rfl, rfl⟩ := y
      refine ⟨_, rfl, .inl ⟨rfl, _, .inl (.inl hF)⟩, _, rfl, .inl ⟨rfl, _, .inl (.inl hL)⟩, _, rfl, _, rfl, L, _, rfl, .inl (.inl (.inl hL)), a, l1.length, rfl, hp2, by omega, by omega, fun H4 d hd hp4 ho4 => ?_⟩
      have hL4 := ho4 _ _ hL naL.symm
      have hF4 := ho4 _ _ hF naF.symm
      refine ⟨L, _, (d : Int), d, _, rfl, rfl, hL4, by omega, by omega, ?_, List.getElem?_eq_getElem hd, ?_⟩
      · unfold seqIndex?; simp; omega
      refine ⟨F, _, _, rfl, rfl, by rw [upd_ne nFL.symm]; exact hF4, Nat.lt_of_lt_of_le (by omega : l2.length < 1001) (sz (by omega)), ?_⟩
      refine ⟨_, rfl, (hp4.up naL).up naF, ((ho2.trans ho4).up nL).up nF0, l1.eraseIdx d, l2 ++ [l1[d]], ?_, ?_, ?_, ?_, ?_⟩
      · rw [upd_ne nFL, upd_same]
      · rw [upd_same]
      · rw [List.length_append, e1]; rfl
      · rw [List.length_eraseIdx_of_lt hd]; omega
      · rw [List.append_assoc]
        exact (List.Perm.append_left l2 (perm_erase hd)).trans hpm
    · obtain ⟨t0, rfl, hp2, ho2, l1, l2, hL, hF, e1, e2, hpm⟩ := p
      have : l1 = [] := List.eq_nil_of_length_eq_zero (by omega)
      subst this
      rw [List.append_nil] at hpm
      exact ⟨_, rfl, q _ F l2 hpm hp2 ho2 nF0 hF⟩
end
end Lw
namespace Lw
open PySem PySem.Spec PyProof.Rows L3
open L2 hiding del del_same del_ne
section
variable {P : Program} {w : World} {K : PySem.W.Frag} {mg : Str → Option Value} {base : Heap}
def spLawKinds (K : PySem.W.Frag) : Sp := fun vs H Q _ => ∃ (a : Addr) (n : Nat), vs = [.ref a, .int (n : Int)] ∧ Pot H a ∧ 0 < n ∧ n ≤ 40 ∧
  ∀ H' p (k : List Bool), k.length = n → Pot H' a → Off a H H' → H p = none → H' p = some (.lst (k.map V.bl)) → Q (.ref p) H'
theorem ok_law_kinds (T : All K mg) : FnOk P w K mg base CX0 2 T.f_law_kinds T.d_law_kinds ["_law_pot_here", "_law_many"] (spLawKinds K) := by
  refine T.law_kinds.F.ok sc_law_kinds (fun vs H Q E h => ?_) (fun cdv A outer s H vs Q E hr h => ?_)
  · obtain ⟨a, n, rfl, _⟩ := h
    rfl
  · obtain ⟨a, n, rfl, hp, hn, hn40, q⟩ := h
    refine ⟨_, pss_cons (ps_asg (pe_tup (pa_cons (pe_call (ok_law_draw T) (hr.mono (by decide)) (by rfl) T.law_draw.g T.law_draw.F.kp T.law_draw.b .nil pass0 (pa_cons (pv 0) (pa_cons pe_int pa_nil))) (pa_cons (pe_call (ok_law_draw T) (hr.mono (by decide)) (by rfl) T.law_draw.g T.law_draw.F.kp T.law_draw.b .nil pass0 (pa_cons (pv 0) (pa_cons (pv 1) pa_nil))) pa_nil))) (pg_tup rfl (pgs_cons (pg_name (i := 2) sc_law_kinds.nd rfl (by first | exact Or.inl rfl | exact Or.inr rfl)) (pgs_cons (pg_name (i := 3) sc_law_kinds.nd rfl (by first | exact Or.inl rfl | exact Or.inr rfl)) pgs_nil))))
      (pss_cons (ps_if (pt_cmpR op_lt (pv 2) pe_int (nomark _)) (pss_one (ps_ret (pe_lc (own := [("_law_spot", 4)]) (g := gName 4) (tt := tYes) rfl sc_law_kinds.nd (pi_range1 rfl T.b_range (pa_cons (pv 1) pa_nil))
          (blkOk_by (own := [("_law_spot", 4)]) (N := ["_law_pot_here", "_law_many", "_law_way", "_law_one", "_law_spot"]) (sc := defScope s_law_kinds) (by decide +kernel))
          (fun _ _ _ _ _ => pg_name (i := 4) sc_law_kinds.nd rfl (by first | exact Or.inl rfl | exact Or.inr rfl)) (fun _ _ _ _ _ => pts_nil)
          (fun _ _ _ _ _ => (pe_cmpR op_eq (pe_call (ok_law_draw T) (hr.mono (by decide)) (by rfl) T.law_draw.g T.law_draw.F.kp T.law_draw.b .nil pass0 (pa_cons (pv 0) (pa_cons pe_int pa_nil))) pe_int (by rfl)))))) pss_nil)
      (pss_one (ps_ret (pe_lc (own := [("_law_spot", 4)]) (g := gName 4) (tt := tYes) rfl sc_law_kinds.nd (pi_range1 rfl T.b_range (pa_cons (pv 1) pa_nil))
          (blkOk_by (own := [("_law_spot", 4)]) (N := ["_law_pot_here", "_law_many", "_law_way", "_law_one", "_law_spot"]) (sc := defScope s_law_kinds) (by decide +kernel))
          (fun _ _ _ _ _ => pg_name (i := 4) sc_law_kinds.nd rfl (by first | exact Or.inl rfl | exact Or.inr rfl)) (fun _ _ _ _ _ => pts_nil)
          (fun _ _ _ _ _ => (pe_cmpR op_eq (pe_cmpR op_eq (pv 4) (pv 3) (by rfl)) (pe_cmpR op_eq (pv 2) pe_int (by rfl)) (by rfl))))))), ?_⟩
    dsimp only [cxOf]
    refine ⟨_, rfl, a, 4, rfl, hp, by decide, by decide, fun H1 wy hwy hp1 ho1 => ?_⟩
    refine ⟨_, rfl, _, rfl, a, n, rfl, hp1, hn, by omega, fun H2 on hon hp2 ho2 => ?_⟩
    have o2 := ho1.trans ho2
    refine ⟨by show 2 ≤ sizeLine; decide, fun t nt => ?_⟩
    have st := same_upd (o := .tup [.int (wy : Int), .int (on : Int)]) nt
    refine ⟨t, _, rfl, .inl (.inl upd_same), rfl, _, _, rfl, _, _, rfl, rfl, ?_⟩
    generalize upd H2 t (.tup [.int (wy : Int), .int (on : Int)]) = H3 at *
    have hp3 := hp2.same st
    have o3 := o2.trans (Off.of st)
    refine ⟨_, rfl, _, _, rfl, rfl, ?_⟩
    refine ⟨_, rfl, ?_⟩
    by_cases hw : wy < 2
    · refine ite_t (by simp; omega) ?_
      refine ⟨_, rfl, _, rfl, by omega, by omega, fun D nD => ?_⟩
      have naD : a ≠ D := hp3.ne nD
      rw [show ((n : Int)).toNat = n by omega]
      refine lc_gen2 walk_range (fun H' => Pot H' a ∧ Off a H3 H') (fun i acc => ∃ k : List Bool, acc = k.map V.bl ∧ k.length = i) (sz (by omega)) (fun i acc e => by obtain ⟨k, rfl, h⟩ := e; rw [List.length_map, h]; exact Nat.le_refl _) ⟨[], rfl, rfl⟩
        ⟨hp3.up naD, Off.of (same_upd nD)⟩ (fun H' acc acc' hD' r => ⟨r.1.up naD, r.2.up nD⟩) (fun _ _ => trivial) (fun i x H4 H5 acc C N hi r hD ha y c nn => ?_) (fun H4 xs r hD ha => ?_)
      · obtain ⟨rfl, rfl⟩ := y
        obtain ⟨k, rfl, hk⟩ := ha
        refine ⟨rfl, yes_te ⟨_, rfl, a, 2, rfl, r.1, by decide, by decide, fun H6 dd hdd hp6 ho6 => ⟨rfl, ?_⟩⟩⟩
        exact c _ _ ⟨hp6, r.2.trans ho6⟩ (ho6 _ _ hD naD.symm) ⟨k ++ [_], by rw [List.map_append]; rfl, by rw [List.length_append, hk]; rfl⟩
      · obtain ⟨k, rfl, hk⟩ := ha
        exact q _ D k hk r.1 (o3.trans r.2) (o3.free nD hp3) hD
    · refine ite_f (by simp; omega) ?_
      refine ⟨_, rfl, _, rfl, by omega, by omega, fun D nD => ?_⟩
      have naD : a ≠ D := hp3.ne nD
      rw [show ((n : Int)).toNat = n by omega]
      refine lc_gen walk_range (Same H3) (fun i acc => ∃ k : List Bool, acc = k.map V.bl ∧ k.length = i) (sz (by omega)) (fun i acc e => by obtain ⟨k, rfl, h⟩ := e; rw [List.length_map, h]; exact Nat.le_refl _) ⟨[], rfl, rfl⟩
        (same_upd nD) (fun _ _ h => same_up h nD) (fun _ _ => trivial) (fun i x H4 H5 acc C N hi r hD ha y c nn => ?_) (fun H4 xs r hD ha => ?_)
      · obtain ⟨rfl, rfl⟩ := y
        obtain ⟨k, rfl, hk⟩ := ha
        refine ⟨rfl, yes_te ⟨_, rfl, _, rfl, rfl, _, rfl, rfl, rfl, ?_⟩⟩
        exact c _ _ r hD ⟨k ++ [_], by rw [List.map_append]; rfl, by rw [List.length_append, hk]; rfl⟩
      · obtain ⟨k, rfl, hk⟩ := ha
        exact q _ D k hk (hp3.same r) (o3.trans (Off.of r)) (o3.free nD hp3) hD
end
end Lw
namespace M72
open M14
def setE (R : List (List Nat)) (x i v : Nat) : List (List Nat) := R.set x ((row R x).set i v)
/-- f places are led to; Fr: the steps that may be drawn anew -/
structure Tree (n z f : Nat) (R : List (List Nat)) (Fr : List (Nat × Nat)) : Prop where
  len : R.length = n
  rl : ∀ x, x < n → (row R x).length = z
  lt : ∀ x, x < n → ∀ g ∈ row R x, g < n
  fn : Fr.Nodup
  fl : ∀ x ∈ Fr, x.1 ≤ f ∧ x.1 < n ∧ x.2 < z
  tree : ∀ g, 0 < g → g ≤ f → ∃ x i, x < g ∧ (row R x)[i]? = some g ∧ (x, i) ∉ Fr
theorem setE_row {R : List (List Nat)} {x i v y : Nat} (hx : x < R.length) : row (setE R x i v) y = if y = x then (row R x).set i v else row R y := by
  unfold setE row
  rw [List.getD_eq_getElem?_getD, List.getElem?_set]
  by_cases h : y = x
  · subst h
    rw [if_pos rfl, if_pos rfl, if_pos hx]
    rfl
  · rw [if_neg (Ne.symm h), if_neg h, List.getD_eq_getElem?_getD]
theorem setE_len (R : List (List Nat)) (x i v : Nat) : (setE R x i v).length = R.length := by unfold setE; rw [List.length_set]
theorem Tree.put {n z f : Nat} {R : List (List Nat)} {Fr : List (Nat × Nat)} (h : Tree n z f R Fr) {x i v : Nat} (hm : (x, i) ∈ Fr) (hv : v < n) : Tree n z f (setE R x i v) Fr := by
  obtain ⟨_, hx, hi⟩ := h.fl _ hm
  have hxl : x < R.length := by rw [h.len]; exact hx
  refine ⟨by rw [setE_len]; exact h.len, fun y hy => ?_, fun y hy g hg => ?_, h.fn, h.fl, fun g h0 hg => ?_⟩
  · rw [setE_row hxl]
    split
    · rw [List.length_set]; exact h.rl x hx
    · exact h.rl y hy
  · rw [setE_row hxl] at hg
    split at hg
    · rcases List.mem_or_eq_of_mem_set hg with h1 | h1
      · exact h.lt x hx g h1
      · rw [h1]; exact hv
    · exact h.lt y hy g hg
  · obtain ⟨y, j, hy, hj, hn⟩ := h.tree g h0 hg
    refine ⟨y, j, hy, ?_, hn⟩
    rw [setE_row hxl]
    by_cases e : y = x
    · subst e
      rw [if_pos rfl, List.getElem?_set]
      by_cases e2 : i = j
      · subst e2; exact absurd hm hn
      · rw [if_neg e2]; exact hj
    · rw [if_neg e]; exact hj
theorem Tree.start (n z : Nat) : 0 < n → Tree n z 0 (List.replicate n (List.replicate z 0)) ((List.range z).map fun i => (0, i)) := fun hn => by
  have hrow : ∀ x, x < n → row (List.replicate n (List.replicate z 0)) x = List.replicate z 0 := fun x hx => by
    unfold row
    rw [List.getD_eq_getElem?_getD, List.getElem?_replicate, if_pos hx]
    rfl
  refine ⟨List.length_replicate, fun x hx => by rw [hrow x hx, List.length_replicate], fun x hx g hg => ?_, ?_, fun x hx => ?_, fun g h0 hg => by omega⟩
  · rw [hrow x hx] at hg
    rw [(List.mem_replicate.mp hg).2]
    exact hn
  · exact List.pairwise_map.mpr (List.nodup_range.imp fun {a b} h e => h (Prod.mk.inj e).2)
  · obtain ⟨i, hi, rfl⟩ := List.mem_map.mp hx
    exact ⟨Nat.le_refl _, hn, List.mem_range.mp hi⟩
/-- one more place is led to -/
theorem Tree.grow {n z f : Nat} {R : List (List Nat)} {Fr : List (Nat × Nat)} (h : Tree n z f R Fr) {d x i : Nat} (hd : Fr[d]? = some (x, i)) (hf : f + 1 < n) : Tree n z (f + 1) (setE R x i (f + 1)) (Fr.eraseIdx d ++ (List.range z).map fun i => (f + 1, i)) := by
  have hm := List.mem_of_getElem? hd
  have hp := h.put hm hf
  obtain ⟨hxf, hx, hi⟩ := h.fl _ hm
  have hxl : x < R.length := by rw [h.len]; exact hx
  have hdl := (List.getElem?_eq_some_iff.mp hd).1
  have hsub := List.eraseIdx_sublist Fr d
  have hne : (x, i) ∉ Fr.eraseIdx d := fun z => by
    rw [List.mem_eraseIdx_iff_getElem?] at z
    obtain ⟨j, hj, e⟩ := z
    have h1 := (List.getElem?_eq_some_iff.mp e).1
    have e2 : Fr[j]? = Fr[d]? := by rw [e, hd]
    exact hj ((List.getElem?_inj h1 h.fn).mp e2)
  refine ⟨hp.len, hp.rl, hp.lt, ?_, fun y hy => ?_, fun g h0 hg => ?_⟩
  · refine List.nodup_append.mpr ⟨h.fn.sublist hsub, List.pairwise_map.mpr (List.nodup_range.imp fun {a b} h e => h (Prod.mk.inj e).2), fun y hy w hw e => ?_⟩
    obtain ⟨j, _, rfl⟩ := List.mem_map.mp hw
    have h1 := (h.fl y (hsub.mem hy)).1
    rw [e] at h1
    have h2 : f + 1 ≤ f := h1
    omega
  · rcases List.mem_append.mp hy with hy | hy
    · obtain ⟨a1, a2, a3⟩ := h.fl y (hsub.mem hy)
      exact ⟨by omega, a2, a3⟩
    · obtain ⟨j, hj, rfl⟩ := List.mem_map.mp hy
      exact ⟨Nat.le_refl _, hf, List.mem_range.mp hj⟩
  · rcases Nat.lt_or_ge f g with hgf | hgf
    · have : g = f + 1 := by omega
      subst this
      refine ⟨x, i, by omega, ?_, fun hz => ?_⟩
      · rw [setE_row hxl, if_pos rfl, List.getElem?_set, if_pos rfl, if_pos (by rw [h.rl x hx]; exact hi)]
      · rcases List.mem_append.mp hz with hz | hz
        · exact hne hz
        · obtain ⟨j, _, e⟩ := List.mem_map.mp hz
          have := (Prod.mk.inj e).1
          omega
    · obtain ⟨y, j, hy, hj, hn⟩ := hp.tree g h0 hgf
      refine ⟨y, j, hy, hj, fun hz => ?_⟩
      rcases List.mem_append.mp hz with hz | hz
      · exact hn (hsub.mem hz)
      · obtain ⟨j', _, e⟩ := List.mem_map.mp hz
        have := (Prod.mk.inj e).1
        omega
/-- called otherwise, all places are come to -/
theorem Tree.good {n z : Nat} {R : List (List Nat)} {Fr : List (Nat × Nat)} (h : Tree n z (n - 1) R Fr) (hn : 0 < n) (hn40 : n ≤ 40) {nm : List Nat} (hp : nm.Perm (List.range n)) (h0 : nm[0]? = some 0) {R2 : List (List Nat)} (hl : R2.length = n)
    (hr : ∀ s, s < n → row R2 (nm.getD s 0) = (row R s).map fun g => nm.getD g 0) {k : List Bool} (hk : k.length = n) : Good z R2 k := by
  have hnl : nm.length = n := by rw [hp.length_eq, List.length_range]
  have hlt : ∀ s, s < n → nm.getD s 0 < n := fun s hs => by
    rw [List.getD_eq_getElem?_getD, List.getElem?_eq_getElem (by omega)]
    exact List.mem_range.mp (hp.mem_iff.mp (List.getElem_mem _))
  have hex : ∀ p, p < n → ∃ s, s < n ∧ nm.getD s 0 = p := fun p hp' => by
    have hm := hp.mem_iff.mpr (List.mem_range.mpr hp')
    obtain ⟨s, hs, e⟩ := List.mem_iff_getElem.mp hm
    exact ⟨s, by omega, by rw [List.getD_eq_getElem?_getD, List.getElem?_eq_getElem hs]; exact e⟩
  have hrow : ∀ p, p < n → (row R2 p).length = z ∧ ∀ g ∈ row R2 p, g < n := fun p hp' => by
    obtain ⟨s, hs, rfl⟩ := hex p hp'
    rw [hr s hs]
    refine ⟨by rw [List.length_map]; exact h.rl s hs, fun g hg => ?_⟩
    obtain ⟨g0, hg0, rfl⟩ := List.mem_map.mp hg
    exact hlt _ (h.lt s hs g0 hg0)
  have hv : Val R2 := fun p hp' g hg => by rw [hl] at hp' ⊢; exact (hrow p hp').2 g hg
  have h00 : nm.getD 0 0 = 0 := by rw [List.getD_eq_getElem?_getD, h0]; rfl
  have hmet : ∀ m s, s ≤ m → s < n → nm.getD s 0 ∈ met R2 0 := fun m => by
    induction m with
    | zero =>
      intro s hs _
      rw [show s = 0 by omega, h00]
      exact met_self _ _
    | succ m ih =>
      intro s hs hsn
      by_cases h1 : s ≤ m
      · exact ih s h1 hsn
      · obtain ⟨x, i, hx, hi, _⟩ := h.tree s (by omega) (by omega)
        refine met_closed hv (by omega) (ih x (by omega) (by omega)) (?_ : nm.getD s 0 ∈ row R2 (nm.getD x 0))
        rw [hr x (by omega)]
        exact List.mem_map.mpr ⟨s, List.mem_of_getElem? hi, rfl⟩
  refine ⟨⟨by omega, by omega, fun r hr' => ?_, hv, by rw [hk, hl]⟩, fun p hp' => ?_⟩
  · obtain ⟨p, hp', e⟩ := List.mem_iff_getElem.mp hr'
    have : row R2 p = r := row_get (by rw [List.getElem?_eq_getElem hp', e])
    rw [← this]
    exact (hrow p (by omega)).1
  · obtain ⟨s, hs, rfl⟩ := hex p (by omega)
    exact hmet n s (by omega) hs
end M72
namespace Lw
open PySem PySem.Spec PyProof.Rows L3
open L2 hiding del del_same del_ne
theorem nV_snoc (l : List Nat) (n : Nat) : nV (l ++ [n]) = nV l ++ [.int (n : Int)] := by unfold nV; rw [List.map_append]; rfl
/-- rows in lists of their own -/
structure Mat (H : Hp) (p : Addr) (qs : List Addr) (R : List (List Nat)) : Prop where
  hp : H p = some (.lst (qs.map V.ref))
  len : qs.length = R.length
  row : ∀ (i : Nat) q, qs[i]? = some q → H q = some (.lst (nV (M14.row R i)))
theorem Mat.step {H H' : Hp} {p : Addr} {qs : List Addr} {R : List (List Nat)} (h : Mat H p qs R) (e : ∀ b, b = p ∨ b ∈ qs → ∀ o, H b = some o → H' b = some o) : Mat H' p qs R :=
  ⟨e p (.inl rfl) _ h.hp, h.len, fun i q hq => e q (.inr (List.mem_of_getElem? hq)) _ (h.row i q hq)⟩
theorem Mat.off {a : Addr} {H H' : Hp} {p : Addr} {qs : List Addr} {R : List (List Nat)} (h : Mat H p qs R) (o : Off a H H') (hp : p ≠ a) (hq : a ∉ qs) : Mat H' p qs R :=
  h.step fun b hb u e => o b u e (hb.elim (fun z => z ▸ hp) fun z w => hq (w ▸ z))
theorem Mat.same {H H' : Hp} {p : Addr} {qs : List Addr} {R : List (List Nat)} (h : Mat H p qs R) (o : Same H H') : Mat H' p qs R := h.step fun b _ u e => o b u e
theorem Mat.put {H : Hp} {p : Addr} {qs : List Addr} {R : List (List Nat)} (h : Mat H p qs R) (hn : qs.Nodup) (hpq : p ∉ qs) {x i v : Nat} {q : Addr} (hq : qs[x]? = some q) : Mat (upd H q (.lst (nV ((M14.row R x).set i v)))) p qs (M72.setE R x i v) := by
  have hx := (List.getElem?_eq_some_iff.mp hq).1
  have hxR : x < R.length := by rw [← h.len]; exact hx
  refine ⟨by rw [upd_ne (fun z => hpq (by rw [z]; exact List.mem_of_getElem? hq))]; exact h.hp, by rw [M72.setE_len]; exact h.len, fun y r hr => ?_⟩
  rw [M72.setE_row hxR]
  by_cases e : y = x
  · subst e
    rw [hq] at hr
    cases hr
    rw [upd_same, if_pos rfl]
  · have hne : r ≠ q := fun z => by
      have hy := (List.getElem?_eq_some_iff.mp hr).1
      rw [z, ← hq] at hr
      exact e ((List.getElem?_inj hy hn).mp hr)
    rw [upd_ne hne, if_neg e]
    exact h.row y r hr
/-- pairs of numbers in tuples -/
def dP2 (p : Nat × Nat) : PyData := .tuple [.int (p.1 : Int), .int (p.2 : Int)]
def Prl (K : PySem.W.Frag) (H : Hp) (xs : List V) (Fr : List (Nat × Nat)) : Prop := xs.length = Fr.length ∧ ∀ (i : Nat) x p, xs[i]? = some x → Fr[i]? = some p → ∃ t, x = .ref t ∧ SqT K H t [.int (p.1 : Int), .int (p.2 : Int)]
theorem Prl.of {K : PySem.W.Frag} {H : Hp} {xs : List V} {Fr : List (Nat × Nat)} (h : DpAll K H xs (Fr.map dP2)) : Prl K H xs Fr := by
  refine ⟨by rw [dpAll_len h, List.length_map], fun i x p h1 h2 => ?_⟩
  obtain ⟨d, hd, hx⟩ := dpAll_back h h1
  rw [List.getElem?_map, h2] at hd
  cases hd
  obtain ⟨t, ys, rfl, hS, hA⟩ := dp_tuple hx
  cases hA with
  | cons a b =>
    cases b with
    | cons b c =>
      cases c
      cases a
      cases b
      exact ⟨t, rfl, hS⟩
theorem Prl.nl {K : PySem.W.Frag} {H H' : Hp} {xs : List V} {Fr : List (Nat × Nat)} (h : Prl K H xs Fr) (e : NL H H') : Prl K H' xs Fr := ⟨h.1, fun i x p h1 h2 => by
  obtain ⟨t, ht, hx⟩ := h.2 i x p h1 h2
  exact ⟨t, ht, sqT_nl hx e⟩⟩
theorem Prl.app {K : PySem.W.Frag} {H : Hp} {xs ys : List V} {Fr Gr : List (Nat × Nat)} (h : Prl K H xs Fr) (g : Prl K H ys Gr) : Prl K H (xs ++ ys) (Fr ++ Gr) := by
  refine ⟨by rw [List.length_append, List.length_append, h.1, g.1], fun i x p h1 h2 => ?_⟩
  by_cases hi : i < xs.length
  · rw [List.getElem?_append_left hi] at h1
    rw [List.getElem?_append_left (by rw [← h.1]; exact hi)] at h2
    exact h.2 i x p h1 h2
  · rw [List.getElem?_append_right (by omega)] at h1
    rw [List.getElem?_append_right (by rw [← h.1]; omega), ← h.1] at h2
    exact g.2 _ x p h1 h2
theorem Prl.erase {K : PySem.W.Frag} {H : Hp} {xs : List V} {Fr : List (Nat × Nat)} (h : Prl K H xs Fr) (d : Nat) : Prl K H (xs.eraseIdx d) (Fr.eraseIdx d) := by
  refine ⟨by rw [List.length_eraseIdx, List.length_eraseIdx, h.1], fun i x p h1 h2 => ?_⟩
  rw [List.getElem?_eraseIdx] at h1 h2
  by_cases hi : i < d
  · rw [if_pos hi] at h1 h2
    exact h.2 i x p h1 h2
  · rw [if_neg hi] at h1 h2
    exact h.2 _ x p h1 h2
theorem NL.off {a : Addr} {H H' : Hp} (hp : Pot H a) (o : Off a H H') : NL H H' := fun b u e n => o b u e fun z => by
  obtain ⟨x, y, ha, _⟩ := hp
  rw [z, ha] at e
  cases e
  exact n _ rfl
theorem nV_rep (z : Nat) : (List.replicate z [V.int 0]).flatten = nV (List.replicate z 0) := by
  rw [List.flatten_replicate_singleton]
  unfold nV
  rw [List.map_replicate]
  rfl
theorem nV_set' (l : List Nat) (i v : Nat) : (nV l).set i (.int (v : Int)) = nV (l.set i v) := by
  unfold nV
  rw [List.map_set]
theorem dpAll_setZ {K : PySem.W.Frag} {H : Hp} {v : V} {d : PyData} : ∀ {zs : List V} {ds : List PyData} (i : Nat), DpAll K H zs ds → Dp K H v d → DpAll K H (zs.set i v) (ds.set i d)
  | _, _, _, .nil, _ => .nil
  | _, _, 0, .cons a b, h => .cons h b
  | _, _, i + 1, .cons a b, h => .cons a (dpAll_setZ i b h)
/-- rows while they are found under their names -/
def fRows (n : Nat) (nm : List Nat) (R : List (List Nat)) (s : Nat) : List (List Nat) := (List.range n).map fun p => if nm.idxOf p < s then (M14.row R (nm.idxOf p)).map (fun g => nm.getD g 0) else []
theorem fRows_len (n : Nat) (nm : List Nat) (R : List (List Nat)) (s : Nat) : (fRows n nm R s).length = n := by unfold fRows; rw [List.length_map, List.length_range]
theorem fRows_get {n : Nat} (nm : List Nat) (R : List (List Nat)) (s : Nat) {p : Nat} (hp : p < n) : (fRows n nm R s)[p]? = some (if nm.idxOf p < s then (M14.row R (nm.idxOf p)).map (fun g => nm.getD g 0) else []) := by
  unfold fRows
  rw [List.getElem?_map, List.getElem?_range hp]
  rfl
theorem fRows_none {n : Nat} (nm : List Nat) (R : List (List Nat)) (s : Nat) {p : Nat} (hp : ¬p < n) : (fRows n nm R s)[p]? = none := List.getElem?_eq_none (by rw [fRows_len]; omega)
theorem fRows_zero (n : Nat) (nm : List Nat) (R : List (List Nat)) : fRows n nm R 0 = List.replicate n [] := by
  refine List.ext_getElem? fun p => ?_
  rw [List.getElem?_replicate]
  by_cases hp : p < n
  · rw [fRows_get nm R 0 hp, if_pos hp, if_neg (Nat.not_lt_zero _)]
  · rw [fRows_none nm R 0 hp, if_neg hp]
theorem nm_idx {nm : List Nat} (hd : nm.Nodup) {s : Nat} (hs : s < nm.length) : nm.idxOf (nm.getD s 0) = s := by
  rw [List.getD_eq_getElem?_getD, List.getElem?_eq_getElem hs]
  exact hd.idxOf_getElem s hs
theorem fRows_succ {n : Nat} {nm : List Nat} (hd : nm.Nodup) (R : List (List Nat)) {s : Nat} (hs : s < nm.length) (hsn : nm.getD s 0 < n) (hm : ∀ p, p < n → p ∈ nm) : fRows n nm R (s + 1) = (fRows n nm R s).set (nm.getD s 0) ((M14.row R s).map fun g => nm.getD g 0) := by
  refine List.ext_getElem? fun p => ?_
  rw [List.getElem?_set, fRows_len]
  by_cases hp : p < n
  · rw [fRows_get nm R _ hp, fRows_get nm R _ hp]
    by_cases e : nm.getD s 0 = p
    · subst e
      rw [if_pos rfl, if_pos hsn, nm_idx hd hs, if_pos (Nat.lt_succ_self s)]
    · rw [if_neg e]
      have hne : nm.idxOf p ≠ s := fun z => e (by
        have := List.getElem_idxOf (List.idxOf_lt_length_iff.mpr (hm p hp))
        rw [List.getD_eq_getElem?_getD, ← z, List.getElem?_eq_getElem (List.idxOf_lt_length_iff.mpr (hm p hp)), this]
        rfl)
      by_cases h : nm.idxOf p < s
      · rw [if_pos h, if_pos (by omega)]
      · rw [if_neg h, if_neg (by omega)]
  · rw [fRows_none nm R _ hp, fRows_none nm R _ hp]
    by_cases e : nm.getD s 0 = p
    · exact absurd (e ▸ hsn) hp
    · rw [if_neg e]
theorem fRows_row {n : Nat} {nm : List Nat} (hd : nm.Nodup) (R : List (List Nat)) {s : Nat} (hs : s < nm.length) (hsn : nm.getD s 0 < n) (hn : s < n) : M14.row (fRows n nm R n) (nm.getD s 0) = (M14.row R s).map fun g => nm.getD g 0 := by
  refine M14.row_get ?_
  rw [fRows_get nm R n hsn, nm_idx hd hs, if_pos hn]
section
variable {P : Program} {w : World} {K : PySem.W.Frag} {mg : Str → Option Value} {base : Heap}
def spLawRows (K : PySem.W.Frag) : Sp := fun vs H Q _ => ∃ (a : Addr) (n z : Nat), vs = [.ref a, .int (n : Int), .int (z : Int)] ∧ Pot H a ∧ 0 < n ∧ n ≤ 6 ∧ 0 < z ∧ z ≤ 3 ∧
  ∀ H' p (R : List (List Nat)), R.length = n → (∀ k : List Bool, k.length = n → M14.Good z R k) → Pot H' a → Off a H H' → H p = none → Dp K (del H' a) (.ref p) (dLR R) → Q (.ref p) H'
theorem ok_law_rows (T : All K mg) : FnOk P w K mg base CX0 3 T.f_law_rows T.d_law_rows ["_law_pot_here", "_law_many", "_law_size"] (spLawRows K) := by
  refine T.law_rows.F.ok sc_law_rows (fun vs H Q E h => ?_) (fun cdv A outer s H vs Q E hr h => ?_)
  · obtain ⟨a, n, z, rfl, _⟩ := h
    rfl
  · obtain ⟨a, n, z, rfl, hp, hn, hn5, hz, hz3, q⟩ := h
    refine ⟨_, pss_cons (ps_par3 rfl sc_law_rows.nd (i := 3) (j := 4) (l := 5) rfl rfl rfl (by decide) (by decide) (by decide) rfl rfl rfl (pa_cons (pe_lc (own := [("_law_k", 6)]) (g := gName 6) (tt := tYes) rfl sc_law_rows.nd (pi_range1 rfl T.b_range (pa_cons (pv 1) pa_nil))
          (blkOk_by (own := [("_law_k", 6)]) (N := ["_law_pot_here", "_law_many", "_law_size", "_law_rows_here", "_law_free", "_law_way", "_law_k", "_law_at", "_law_far", "_law_near", "_law_spot", "_law_goals", "_law_names", "_law_found", "_law_goal"]) (sc := defScope s_law_rows) (by decide +kernel))
          (fun _ _ _ _ _ => pg_name (i := 6) sc_law_rows.nd rfl (by first | exact Or.inl rfl | exact Or.inr rfl)) (fun _ _ _ _ _ => pts_nil)
          (fun _ _ _ _ _ => (pe_op op_rep (pe_lst (pa_cons pe_int pa_nil)) (pv 2)))) (pa_cons (pe_lc (own := [("_law_at", 7)]) (g := gName 7) (tt := tYes) rfl sc_law_rows.nd (pi_range1 rfl T.b_range (pa_cons (pv 2) pa_nil))
          (blkOk_by (own := [("_law_at", 7)]) (N := ["_law_pot_here", "_law_many", "_law_size", "_law_rows_here", "_law_free", "_law_way", "_law_k", "_law_at", "_law_far", "_law_near", "_law_spot", "_law_goals", "_law_names", "_law_found", "_law_goal"]) (sc := defScope s_law_rows) (by decide +kernel))
          (fun _ _ _ _ _ => pg_name (i := 7) sc_law_rows.nd rfl (by first | exact Or.inl rfl | exact Or.inr rfl)) (fun _ _ _ _ _ => pts_nil)
          (fun _ _ _ _ _ => (pe_tup (pa_cons pe_int (pa_cons (pv 7) pa_nil))))) (pa_cons (pe_call (ok_law_draw T) (hr.mono (by decide)) (by rfl) T.law_draw.g T.law_draw.F.kp T.law_draw.b .nil pass0 (pa_cons (pv 0) (pa_cons pe_int pa_nil))) pa_nil))) (by rfl))
      (pss_cons (ps_for PassesOwn.never rfl (pi_range2 rfl T.b_range (pa_cons pe_int (pa_cons (pv 1) pa_nil))) (pg_name (i := 8) sc_law_rows.nd rfl (by first | exact Or.inl rfl | exact Or.inr rfl))
        (pss_cons (ps_asg (pe_bm PySem.F.plainAttrs_list PySem.F.slot_list_pop PySem.F.type_list_pop mt_popAt (pv 4) (pa_cons (pe_call (ok_law_draw T) (hr.mono (by decide)) (by rfl) T.law_draw.g T.law_draw.F.kp T.law_draw.b .nil pass0 (pa_cons (pv 0) (pa_cons (pe_callB call_len_seq (by rfl) T.b_len PySem.boot_len (pa_cons (pv 4) pa_nil)) pa_nil))) pa_nil)) (pg_tup rfl (pgs_cons (pg_name (i := 9) sc_law_rows.nd rfl (by first | exact Or.inl rfl | exact Or.inr rfl)) (pgs_cons (pg_name (i := 7) sc_law_rows.nd rfl (by first | exact Or.inl rfl | exact Or.inr rfl)) pgs_nil))))
      (pss_cons (ps_asg (pv 8) (pg_sub (pe_ix ix_list (pv 3) (pv 9) (fun _ _ => rfl)) (pv 7) set_list))
      (pss_one (ps_expr (pe_bm PySem.F.plainAttrs_list PySem.F.slot_list_extend PySem.F.type_list_extend mt_extend (pv 4) (pa_cons (pe_lc (own := [("_law_spot", 10)]) (g := gName 10) (tt := tYes) rfl sc_law_rows.nd (pi_range1 rfl T.b_range (pa_cons (pv 2) pa_nil))
          (blkOk_by (own := [("_law_spot", 10)]) (N := ["_law_pot_here", "_law_many", "_law_size", "_law_rows_here", "_law_free", "_law_way", "_law_k", "_law_at", "_law_far", "_law_near", "_law_spot", "_law_goals", "_law_names", "_law_found", "_law_goal"]) (sc := defScope s_law_rows) (by decide +kernel))
          (fun _ _ _ _ _ => pg_name (i := 10) sc_law_rows.nd rfl (by first | exact Or.inl rfl | exact Or.inr rfl)) (fun _ _ _ _ _ => pts_nil)
          (fun _ _ _ _ _ => (pe_tup (pa_cons (pv 8) (pa_cons (pv 10) pa_nil))))) pa_nil)))))))
      (pss_cons (ps_for PassesOwn.never rfl (pi_list (pv 4)) (pg_tup rfl (pgs_cons (pg_name (i := 9) sc_law_rows.nd rfl (by first | exact Or.inl rfl | exact Or.inr rfl)) (pgs_cons (pg_name (i := 7) sc_law_rows.nd rfl (by first | exact Or.inl rfl | exact Or.inr rfl)) pgs_nil)))
        (pss_cons (ps_set (i := 11) sc_law_rows.nd rfl (by first | exact Or.inl rfl | exact Or.inr rfl) (pe_lst (pa_cons (pe_call (ok_law_draw T) (hr.mono (by decide)) (by rfl) T.law_draw.g T.law_draw.F.kp T.law_draw.b .nil pass0 (pa_cons (pv 0) (pa_cons (pv 1) pa_nil))) (pa_cons (pe_op op_add (pv 9) (pe_call (ok_law_draw T) (hr.mono (by decide)) (by rfl) T.law_draw.g T.law_draw.F.kp T.law_draw.b .nil pass0 (pa_cons (pv 0) (pa_cons (pe_op op_sub (pv 1) (pv 9)) pa_nil)))) pa_nil))))
      (pss_one (ps_asg (pe_ifExp (PW.pt (pw_or (pt_cmpR op_lt (pv 5) pe_int (nomark _)) (pw_or1 (pt_cmpR op_eq (pe_call (ok_law_draw T) (hr.mono (by decide)) (by rfl) T.law_draw.g T.law_draw.F.kp T.law_draw.b .nil pass0 (pa_cons (pv 0) (pa_cons pe_int pa_nil))) pe_int (nomark _))))) (pe_ix ix_list (pv 11) (pe_callTy call_int1 (by rfl) T.b_int PyProof.Rows.boot_int (pa_cons (pe_cmpR op_gt (pv 5) pe_int (by rfl)) pa_nil)) (fun _ _ => rfl)) (pv 9)) (pg_sub (pe_ix ix_list (pv 3) (pv 9) (fun _ _ => rfl)) (pv 7) set_list)))))
      (pss_cons (ps_set (i := 12) sc_law_rows.nd rfl (by first | exact Or.inl rfl | exact Or.inr rfl) (pe_op op_cat (pe_lst (pa_cons pe_int pa_nil)) (pe_call (ok_law_mixed T) (hr.mono (by decide)) (by rfl) T.law_mixed.g T.law_mixed.F.kp T.law_mixed.b .nil pass0 (pa_cons (pv 0) (pa_cons (pe_listRg (by rfl) (by rfl) T.b_list (prg_2 (by rfl) T.b_range pe_int (pv 1))) pa_nil)))))
      (pss_cons (ps_setLc (i := 13) (own := [("_law_spot", 10)]) (g := gName 10) (tt := tYes) (by rfl) sc_law_rows.nd rfl rfl (sw_true rfl rfl rfl (by decide +kernel)) (pi_list (pv 3))
          (blkOk_by (own := [("_law_spot", 10)]) (N := ["_law_pot_here", "_law_many", "_law_size", "_law_rows_here", "_law_free", "_law_way", "_law_k", "_law_at", "_law_far", "_law_near", "_law_spot", "_law_goals", "_law_names", "_law_found", "_law_goal"]) (sc := defScope s_law_rows) (by decide +kernel))
          (fun _ _ _ _ _ => pg_name (i := 10) sc_law_rows.nd rfl (by first | exact Or.inl rfl | exact Or.inr rfl)) (fun _ _ _ _ _ => pts_nil)
          (fun _ _ _ _ _ => (pe_lst pa_nil)))
      (pss_cons (ps_for PassesOwn.never rfl (pi_enumS rfl T.b_enumerate (pa_cons (pv 3) pa_nil)) (pg_tup rfl (pgs_cons (pg_name (i := 10) sc_law_rows.nd rfl (by first | exact Or.inl rfl | exact Or.inr rfl)) (pgs_cons (pg_name (i := 11) sc_law_rows.nd rfl (by first | exact Or.inl rfl | exact Or.inr rfl)) pgs_nil)))
        (pss_one (ps_asg (pe_lc (own := [("_law_goal", 14)]) (g := gName 14) (tt := tYes) rfl sc_law_rows.nd (pi_list (pv 11))
          (blkOk_by (own := [("_law_goal", 14)]) (N := ["_law_pot_here", "_law_many", "_law_size", "_law_rows_here", "_law_free", "_law_way", "_law_k", "_law_at", "_law_far", "_law_near", "_law_spot", "_law_goals", "_law_names", "_law_found", "_law_goal"]) (sc := defScope s_law_rows) (by decide +kernel))
          (fun _ _ _ _ _ => pg_name (i := 14) sc_law_rows.nd rfl (by first | exact Or.inl rfl | exact Or.inr rfl)) (fun _ _ _ _ _ => pts_nil)
          (fun _ _ _ _ _ => (pe_ix (ix_listK (K := K) rfl) (pv 12) (pv 14) (fun _ _ => rfl)))) (pg_sub (pv 13) (pe_ix ix_list (pv 12) (pv 10) (fun _ _ => rfl)) set_list))))
      (pss_one (ps_ret (pv 13)))))))), ?_⟩
    dsimp only [cxOf]
    -- the rows
    refine ⟨_, rfl, _, rfl, by omega, by omega, fun Pm nP => ?_⟩
    rw [show ((n : Int)).toNat = n by omega]
    have naP : a ≠ Pm := hp.ne nP
    refine lc_dp walk_range (fun i acc H' => Same H H' ∧ ∃ qs : List Addr, acc = qs.map V.ref ∧ qs.length = i ∧ qs.Nodup ∧ Pm ∉ qs ∧ ∀ q ∈ qs, H q = none ∧ H' q = some (.lst (nV (List.replicate z 0)))) (sz (by omega)) (fun i acc H' p => by obtain ⟨_, qs, rfl, h, _⟩ := p; rw [List.length_map, h]; exact Nat.le_refl _) nP ⟨Same.refl _, [], rfl, rfl, List.nodup_nil, by simp, fun q hq => nomatch hq⟩ (fun _ _ _ _ _ => trivial) (fun i x H1 H2 acc C N hi p hD y c nn => ?_) (fun H1 xs hD p => ?_)
    · obtain ⟨rfl, rfl⟩ := y
      obtain ⟨sm, qs, rfl, hql, hqn, hPq, hq⟩ := p
      have sH : Same H H2 := sm.trans (del_same _ _)
      refine ⟨rfl, yes_te ⟨by show 1 ≤ sizeLine; decide, fun l nl => ⟨_, rfl, l, (z : Int), [.int 0], rfl, rfl, upd_same, by omega, by omega, sz (by simp; omega), fun q nq => ?_⟩⟩⟩
      rw [show ((z : Int)).toNat = z by omega, nV_rep]
      have sl := same_upd (o := .lst [.int 0]) nl
      have sq := same_upd (o := .lst (nV (List.replicate z 0))) nq
      have s4 := sl.trans sq
      have s04 := sH.trans s4
      have hqP : q ≠ Pm := fun e => by rw [e, sl _ _ hD] at nq; cases nq
      have hq0 : H q = none := (sH.trans sl).free nq
      refine c _ _ (s4 _ _ hD) ⟨same_del s04 nP, qs ++ [q], by rw [List.map_append]; rfl, by rw [List.length_append, hql]; rfl, ?_, ?_, fun q' hq' => ?_⟩
      · refine List.nodup_append.mpr ⟨hqn, by simp, fun x hx y hy e => ?_⟩
        rw [List.mem_singleton.mp hy] at e
        have := sl _ _ (del_same _ _ _ _ (hq x hx).2)
        rw [e, nq] at this
        cases this
      · intro hm
        rcases List.mem_append.mp hm with h | h
        · exact hPq h
        · exact hqP (List.mem_singleton.mp h).symm
      · rcases List.mem_append.mp hq' with h | h
        · obtain ⟨h1, h2⟩ := hq q' h
          refine ⟨h1, ?_⟩
          have hne : q' ≠ Pm := fun e => hPq (e ▸ h)
          rw [del_ne hne] at h2 ⊢
          exact s4 _ _ h2
        · rw [List.mem_singleton.mp h]
          exact ⟨hq0, by rw [del_ne hqP, upd_same]⟩
    obtain ⟨sm, qs, rfl, hql, hqn, hPq, hq⟩ := p
    have s01 : Same H H1 := sm.trans (del_same _ _)
    have hp1 := hp.same s01
    have haq : a ∉ qs := fun h => hp.some (hq a h).1
    have hM1 : Mat H1 Pm qs (List.replicate n (List.replicate z 0)) := ⟨hD, by rw [hql, List.length_replicate], fun i q hi => by
      have h1 := (hq q (List.mem_of_getElem? hi)).2
      have hil := (List.getElem?_eq_some_iff.mp hi).1
      have e : M14.row (List.replicate n (List.replicate z 0)) i = List.replicate z 0 := by
        unfold M14.row
        rw [List.getD_eq_getElem?_getD, List.getElem?_replicate, if_pos (by omega)]
        rfl
      rw [e]
      exact del_same _ _ _ _ h1⟩
    have hq0 : ∀ q ∈ qs, H q = none := fun q h => (hq q h).1
    clear hq sm hD
    -- the free ones
    refine ⟨_, rfl, _, rfl, by omega, by omega, fun F nF => ?_⟩
    rw [show ((z : Int)).toNat = z by omega]
    have hFP : Pm ≠ F := fun e => by rw [← e, hM1.hp] at nF; cases nF
    have hFq : F ∉ qs := fun h => by
      obtain ⟨i, hi⟩ := List.mem_iff_getElem?.mp h
      rw [hM1.row i F hi] at nF
      cases nF
    refine lc_data (K := K) walk_range (((List.range z).map fun i => (0, i)).map dP2) (by rw [List.length_map, List.length_map, List.length_range]) (sz (by omega)) nF (fun _ _ => trivial) (fun i x Hh H' acc dd C hi s4 hD yy hd c => ?_) gName_mono (fun H2 xs s2 hF2 hA => ?_)
    · obtain ⟨rfl, rfl⟩ := yy
      rw [List.getElem?_map, List.getElem?_map, List.getElem?_range hi] at hd
      cases hd
      refine ⟨rfl, _, rfl, by show 2 ≤ sizeLine; decide, fun t nt => ?_⟩
      have htD : t ≠ F := fun e => by rw [e, hD] at nt; cases nt
      refine c _ _ (same_upd nt) (.tup (.inl (.inl (by
        rw [del_ne htD, upd_same]
        show some (HO.tup [V.int 0, V.int (0 + (i : Int))]) = some (HO.tup [V.int ((0 : Nat) : Int), V.int (i : Int)])
        rw [Int.zero_add]
        rfl))) (.cons (.int _) (.cons (.int _) .nil)))
    have hP2 := Prl.of (DpAll.same (del_same _ _) hA)
    have hM2 := hM1.same s2
    have hp2 := hp1.same s2
    have s02 := s01.trans s2
    have nF0 := s01.free nF
    have naF := hp1.ne nF
    clear hA hM1 s2 nF
    refine ⟨_, rfl, a, 4, rfl, hp2, by decide, by decide, fun H3 wy hwy hp3 ho3 => ?_⟩
    refine ⟨_, _, _, rfl, ?_⟩
    have hM3 := hM2.off ho3 naP.symm haq
    have hP3 := hP2.nl (NL.off hp2 ho3)
    have hF3 := ho3 _ _ hF2 naF.symm
    have o3 : Off a H H3 := (Off.of s02).trans ho3
    have hT0 := M72.Tree.start n z hn
    clear hM2 hP2 hF2 ho3 hp2
    have ixn : ∀ (l : List Nat) (j : Nat), j < l.length → ixN (nV l).length ((j : Nat) : Int) = some j := fun l j hj => by
      unfold ixN
      rw [if_pos (by omega), nV_len, if_pos (by omega)]
      rfl
    dsimp only [gName]
    refine ⟨_, rfl, _, _, rfl, ⟨by decide, by decide, by omega, by omega⟩, ?_⟩
    rw [show ((n : Int) - 1).toNat = n - 1 by omega]
    refine for_it walk_range (fun i σ H' => ∃ (xs : List V) (R : List (List Nat)) (Fr : List (Nat × Nat)) (s7 s8 s9 : Option V), σ = [some (.ref a), some (.int (n : Int)), some (.int (z : Int)), some (.ref Pm), some (.ref F), some (.int (wy : Int)), none, s7, s8, s9, none, none, none, none, none] ∧
        Pot H' a ∧ Off a H H' ∧ Mat H' Pm qs R ∧ H' F = some (.lst xs) ∧ Prl K H' xs Fr ∧ M72.Tree n z i R Fr ∧ 0 < Fr.length ∧ Fr.length ≤ 3 * (i + 1))
      ⟨xs, _, _, _, _, _, rfl, hp3, o3, hM3, hF3, hP3, hT0, by rw [List.length_map, List.length_range]; exact hz, by rw [List.length_map, List.length_range]; omega⟩ (fun _ _ _ _ _ => trivial) (fun i x0 σ H4 H5 hi pp y => ?_) (fun σ H4 pp => ?_)
    · obtain ⟨xs, R, Fr, s7, s8, s9, rfl, hp4, o4, hM4, hF4, hP4, hT, hf0, hf9⟩ := pp
      obtain ⟨rfl, rfl⟩ := y
      have e8 : (1 : Int) + (i : Int) = ((i + 1 : Nat) : Int) := by omega
      have hxl := hP4.1
      dsimp only
      rw [e8]
      refine ⟨_, rfl, .inl ⟨rfl, _, .inl (.inl hF4)⟩, _, rfl, _, rfl, F, _, rfl, .inl (.inl (.inl hF4)), a, xs.length, rfl, hp4, by omega, by omega, fun H6 d hd hp6 ho6 => ?_⟩
      have hF6 := ho6 _ _ hF4 naF.symm
      have hM6 := hM4.off ho6 naP.symm haq
      have hP6 := hP4.nl (NL.off hp4 ho6)
      have o6 := o4.trans ho6
      clear hF4 hM4 hP4 ho6 o4 hp4
      have hdx : xs[d]? = some xs[d] := List.getElem?_eq_getElem hd
      have hdf : Fr[d]? = some Fr[d] := List.getElem?_eq_getElem (by omega)
      obtain ⟨t, ht, hSt⟩ := hP6.2 d _ _ hdx hdf
      rw [ht] at hdx
      generalize hfd : Fr[d] = fd at *
      obtain ⟨x, j⟩ := fd
      obtain ⟨hxi, hxn, hjz⟩ := hT.fl _ (List.mem_of_getElem? hdf)
      have hxn : x < n := hxn
      have hjz : j < z := hjz
      refine ⟨F, xs, (d : Int), d, _, rfl, rfl, hF6, by omega, by omega, ?_, hdx, ?_⟩
      · unfold seqIndex?; simp; omega
      have nl7 := NL.upd (o := .lst (xs.eraseIdx d)) hF6
      have hF7 := upd_same (H := H6) (a := F) (o := .lst (xs.eraseIdx d))
      have hp7 := hp6.up (o := .lst (xs.eraseIdx d)) naF
      have o7 := o6.up (o := .lst (xs.eraseIdx d)) nF0
      have hM7 : Mat (upd H6 F (.lst (xs.eraseIdx d))) Pm qs R := hM6.step fun b hb u e => by
        rw [upd_ne (fun w => hb.elim (fun h => hFP (h ▸ w)) fun h => hFq (w ▸ h))]
        exact e
      have hP7 := (hP6.erase d).nl nl7
      have hSt7 := sqT_nl hSt nl7
      generalize upd H6 F (.lst (xs.eraseIdx d)) = H7 at *
      clear hF6 hM6 hP6 hSt nl7 o6 hp6
      refine ⟨t, _, rfl, hSt7, rfl, _, _, rfl, _, _, rfl, rfl, ?_⟩
      have hxR : x < R.length := by rw [hT.len]; exact hxn
      obtain ⟨qx, hqx⟩ : ∃ q, qs[x]? = some q := ⟨qs[x], List.getElem?_eq_getElem (by omega)⟩
      have hqv := hM7.row x qx hqx
      have hrl := hT.rl x hxn
      dsimp only
      refine ⟨_, rfl, _, rfl, _, rfl, Pm, _, ((x : Nat) : Int), .ref qx, rfl, rfl, .inl (.inl hM7.hp), atI_nat (by rw [List.getElem?_map, hqx]; rfl), ?_⟩
      have hqm := List.mem_of_getElem? hqx
      have naq : a ≠ qx := fun w => haq (w ▸ hqm)
      have nFq : F ≠ qx := fun w => hFq (w ▸ hqm)
      refine ⟨_, rfl, qx, _, _, _, rfl, rfl, hqv, ixn _ _ (by rw [hrl]; exact hjz), ?_⟩
      rw [nV_set']
      have nl8 := NL.upd (o := .lst (nV ((M14.row R x).set j (i + 1)))) hqv
      have hM8 := hM7.put hqn hPq (i := j) (v := i + 1) hqx
      have hF8 : upd H7 qx (.lst (nV ((M14.row R x).set j (i + 1)))) F = some (.lst (xs.eraseIdx d)) := by rw [upd_ne nFq]; exact hF7
      have hp8 := hp7.up (o := .lst (nV ((M14.row R x).set j (i + 1)))) naq
      have o8 := o7.up (o := .lst (nV ((M14.row R x).set j (i + 1)))) (hq0 qx hqm)
      have hP8 := hP7.nl nl8
      generalize upd H7 qx (.lst (nV ((M14.row R x).set j (i + 1)))) = H8 at *
      clear hF7 hM7 hP7 hSt7 nl8 o7 hp7 hqv
      dsimp only
      refine ⟨_, rfl, .inl ⟨rfl, _, .inl (.inl hF8)⟩, _, rfl, _, rfl, by omega, by omega, fun D nD => ?_⟩
      rw [show ((z : Int)).toNat = z by omega]
      refine lc_data (K := K) walk_range (((List.range z).map fun s => (i + 1, s)).map dP2) (by rw [List.length_map, List.length_map, List.length_range]) (sz (by omega)) nD (fun _ _ => trivial) (fun s x Hh H' acc dd C hs s4 hD yy hd c => ?_) gName_mono (fun H9 zs s9' hD9 hA => ?_)
      · obtain ⟨rfl, rfl⟩ := yy
        rw [List.getElem?_map, List.getElem?_map, List.getElem?_range hs] at hd
        cases hd
        refine ⟨rfl, _, rfl, _, rfl, by show 2 ≤ sizeLine; decide, fun t nt => ?_⟩
        have htD : t ≠ D := fun e => by rw [e, hD] at nt; cases nt
        refine c _ _ (same_upd nt) (.tup (.inl (.inl (by
          rw [del_ne htD, upd_same]
          show some (HO.tup [V.int ((i + 1 : Nat) : Int), V.int (0 + (s : Int))]) = some (HO.tup [V.int ((i + 1 : Nat) : Int), V.int (s : Int)])
          rw [Int.zero_add]))) (.cons (.int _) (.cons (.int _) .nil)))
      have hPz := Prl.of (DpAll.same (del_same _ _) hA)
      have hP9 := (hP8.nl (NL.same s9')).app hPz
      have hF9 := s9' _ _ hF8
      have hM9 := hM8.same s9'
      have hp9 := hp8.same s9'
      have o9 := o8.trans (Off.of s9')
      have hzl := hPz.1
      rw [List.length_map, List.length_range] at hzl
      have hel : (xs.eraseIdx d).length + 1 = xs.length := by rw [List.length_eraseIdx_of_lt hd]; omega
      have hfl : (Fr.eraseIdx d).length + 1 = Fr.length := by rw [List.length_eraseIdx_of_lt (by omega)]; omega
      refine ⟨F, D, _, _, rfl, rfl, hF9, hD9, sz (by omega), ?_⟩
      refine ⟨xs.eraseIdx d ++ zs, _, _, _, _, _, rfl, hp9.up naF, o9.up nF0, hM9.step fun b hb u e => ?_, upd_same, hP9.nl (NL.upd hF9), hT.grow hdf (by omega), ?_, ?_⟩
      · rw [upd_ne (fun w => hb.elim (fun h => hFP (h ▸ w)) fun h => hFq (w ▸ h))]
        exact e
      · rw [List.length_append, List.length_map, List.length_range]; omega
      · rw [List.length_append, List.length_map, List.length_range]; omega
    obtain ⟨xs, R, Fr, s7, s8, s9, rfl, hp4, o4, hM4, hF4, hP4, hT, hf0, hf9⟩ := pp
    clear hM3 hF3 hP3 hp3 hT0 o3 hf0
    refine ⟨_, rfl, F, rfl, ⟨_, .inl (.inl hF4)⟩, for_it (walk_list (xs := xs)) (fun i σ H' => ∃ (R : List (List Nat)) (s7 s9 s11 : Option V), σ = [some (.ref a), some (.int (n : Int)), some (.int (z : Int)), some (.ref Pm), some (.ref F), some (.int (wy : Int)), none, s7, s8, s9, none, s11, none, none, none] ∧
        Pot H' a ∧ Off a H H' ∧ Mat H' Pm qs R ∧ H' F = some (.lst xs) ∧ Prl K H' xs Fr ∧ M72.Tree n z (n - 1) R Fr)
      ⟨R, _, _, _, rfl, hp4, o4, hM4, hF4, hP4, hT⟩ (fun i σ H' _ p => by obtain ⟨_, _, _, _, _, _, _, _, h, _⟩ := p; exact .inl (.inl h)) (fun i x0 σ H5 H5' hi pp y => ?_) (fun σ H5 pp => ?_)⟩
    · clear hT hM4 hF4 hP4 o4 hp4
      obtain ⟨R, s7, s9, s11, rfl, hp5, o5, hM5, hF5, hP5, hT⟩ := pp
      obtain ⟨rfl, hy⟩ := y
      have hif : i < Fr.length := by rw [← hP5.1]; exact hi
      have hdf : Fr[i]? = some Fr[i] := List.getElem?_eq_getElem hif
      obtain ⟨t, rfl, hSt⟩ := hP5.2 i _ _ hy hdf
      generalize hfd : Fr[i] = fd at *
      obtain ⟨x, j⟩ := fd
      have hm := List.mem_of_getElem? hdf
      obtain ⟨_, hxn, hjz⟩ := hT.fl _ hm
      have hxn : x < n := hxn
      have hjz : j < z := hjz
      refine ⟨t, _, rfl, hSt, rfl, _, _, rfl, _, _, rfl, rfl, ?_⟩
      dsimp only
      refine ⟨_, rfl, _, rfl, a, n, rfl, hp5, hn, by omega, fun H6 d1 hd1 hp6 ho6 => ?_⟩
      refine ⟨_, rfl, _, rfl, _, rfl, _, rfl, _, _, rfl, rfl, a, n - x, ?_, hp6, by omega, by omega, fun H7 d2 hd2 hp7 ho7 => ?_⟩
      · dsimp only; rw [show (n : Int) - (x : Int) = ((n - x : Nat) : Int) by omega]; rfl
      refine ⟨_, _, rfl, rfl, ?_⟩
      dsimp only
      rw [show (x : Int) + (d2 : Int) = ((x + d2 : Nat) : Int) by omega]
      refine ⟨by show 2 ≤ sizeLine; decide, fun G nG => ?_⟩
      have o57 := ho6.trans ho7
      have sG := same_upd (o := .lst [.int (d1 : Int), .int ((x + d2 : Nat) : Int)]) nG
      have hG8 := upd_same (H := H7) (a := G) (o := .lst [.int (d1 : Int), .int ((x + d2 : Nat) : Int)])
      have naG := hp7.ne nG
      have o58 := o57.trans (Off.of sG)
      have hp8 := hp7.same sG
      have hM8 := hM5.off o58 naP.symm haq
      have hP8 := hP5.nl (NL.off hp5 o58)
      have hF8 := o58 _ _ hF5 naF.symm
      have o8 := o5.trans o58
      generalize upd H7 G (.lst [.int (d1 : Int), .int ((x + d2 : Nat) : Int)]) = H8 at *
      clear o57 o58 sG hM5 hP5 hF5 o5 hp7 hp5 hp6 ho6 ho7 nG hSt
      dsimp only [gName]
      refine joinE (R := fun v H' => ∃ u : Nat, v = .int (u : Int) ∧ u < n ∧ Pot H' a ∧ Off a H8 H') (te := tIf (tOr (tTest (tOp (rI0 fun i j => V.bl (decide (i < j))) (tVar 5) (tC (V.int 3)))) _) _ _) (fun Q' hQ' => ?_) (fun v9 H9 pv => ?_)
      · obtain ⟨u, hun, hat⟩ : ∃ u : Nat, u < n ∧ atI [V.int (d1 : Int), V.int ((x + d2 : Nat) : Int)] (if decide ((1 : Int) < (wy : Int)) = true then 1 else 0) = some (.int (u : Int)) := by
          by_cases h : (1 : Int) < (wy : Int)
          · exact ⟨x + d2, by omega, by rw [decide_eq_true h]; rfl⟩
          · exact ⟨d1, hd1, by rw [decide_eq_false h]; rfl⟩
        refine ⟨_, rfl, _, _, rfl, rfl, _, rfl, ?_⟩
        by_cases hw : (wy : Int) < 3
        · refine ite_t (decide_eq_true hw) ?_
          exact iteT ⟨_, rfl, _, rfl, _, _, rfl, rfl, .inr ⟨_, rfl, G, _, _, .int (u : Int), rfl, rfl, .inl (.inl hG8), hat, hQ' _ _ ⟨u, rfl, hun, hp8, Off.refl _ _⟩⟩⟩
        · refine ite_f (decide_eq_false hw) ?_
          refine ⟨_, rfl, a, 2, rfl, hp8, by decide, by decide, fun H9 dd hdd hp9 ho9 => ⟨rfl, _, rfl, ?_⟩⟩
          by_cases hz : dd = 0
          · refine ite_t (by simp [hz]) ?_
            exact ⟨_, rfl, _, rfl, _, _, rfl, rfl, .inr ⟨_, rfl, G, _, _, .int (u : Int), rfl, rfl, .inl (.inl (ho9 _ _ hG8 naG.symm)), hat, hQ' _ _ ⟨u, rfl, hun, hp9, ho9⟩⟩⟩
          · refine ite_f (by simp; omega) ⟨_, rfl, hQ' _ _ ⟨x, rfl, hxn, hp9, ho9⟩⟩
      obtain ⟨u, rfl, hun, hp9, ho9⟩ := pv
      have hM9 := hM8.off ho9 naP.symm haq
      have hP9 := hP8.nl (NL.off hp8 ho9)
      have hF9 := ho9 _ _ hF8 naF.symm
      have o9 := o8.trans ho9
      clear hM8 hP8 hF8 o8 ho9 hG8
      have hxR : x < R.length := by rw [hT.len]; exact hxn
      obtain ⟨qx, hqx⟩ : ∃ q, qs[x]? = some q := ⟨qs[x], List.getElem?_eq_getElem (by omega)⟩
      have hqv := hM9.row x qx hqx
      have hrl := hT.rl x hxn
      have hqm := List.mem_of_getElem? hqx
      have naq : a ≠ qx := fun w => haq (w ▸ hqm)
      have nFq : F ≠ qx := fun w => hFq (w ▸ hqm)
      refine ⟨_, rfl, _, rfl, Pm, _, ((x : Nat) : Int), .ref qx, rfl, rfl, .inl (.inl hM9.hp), atI_nat (by rw [List.getElem?_map, hqx]; rfl), ?_⟩
      refine ⟨_, rfl, qx, _, _, _, rfl, rfl, hqv, ixn _ _ (by rw [hrl]; exact hjz), ?_⟩
      rw [nV_set']
      refine ⟨_, _, _, _, rfl, hp9.up naq, o9.up (hq0 qx hqm), hM9.put hqn hPq (i := j) (v := u) hqx, by rw [upd_ne nFq]; exact hF9, hP9.nl (NL.upd hqv), hT.put hm hun⟩
    clear hT hM4 hF4 hP4 o4 hp4
    obtain ⟨R, s7, s9, s11, rfl, hp5, o5, hM5, hF5, hP5, hT⟩ := pp
    clear hF5 hP5
    dsimp only
    refine ⟨by show 1 ≤ sizeLine; decide, fun l1 nl1 => ?_⟩
    have t1 := same_upd (o := .lst [.int 0]) nl1
    have h1 := upd_same (H := H5) (a := l1) (o := .lst [.int 0])
    generalize upd H5 l1 (.lst [.int 0]) = H6 at *
    have hrg : rgV 1 (n : Int) = nV ((List.range (n - 1)).map Nat.succ) := by
      unfold rgV nV
      rw [List.map_map, show ((n : Int) - 1).toNat = n - 1 by omega]
      exact List.map_congr_left fun i _ => by show V.int (1 + (i : Int)) = V.int ((i.succ : Nat) : Int); rw [show (1 : Int) + (i : Int) = ((i.succ : Nat) : Int) by omega]
    refine ⟨_, rfl, _, rfl, _, _, rfl, rfl, ⟨by omega, by omega, by omega, by omega, by omega⟩, fun l2 nl2 => ?_⟩
    rw [hrg]
    have t2 := same_upd (o := .lst (nV ((List.range (n - 1)).map Nat.succ))) nl2
    have h2 := upd_same (H := H6) (a := l2) (o := .lst (nV ((List.range (n - 1)).map Nat.succ)))
    have h12 := t2 _ _ h1
    generalize upd H6 l2 (.lst (nV ((List.range (n - 1)).map Nat.succ))) = H7 at *
    have hp7 := hp5.same (t1.trans t2)
    refine ⟨a, l2, _, rfl, hp7, .inl (.inl (.inl h2)), by rw [nV_len, List.length_map, List.length_range]; omega, fun H8 M l' hpm hp8 ho8 nM hM => ?_⟩
    obtain ⟨m, hpo, rfl⟩ := perm_lift (fun c : Nat => V.int (c : Int)) hpm _ rfl
    have hM : H8 M = some (.lst (nV m)) := hM
    have hna1 : a ≠ l1 := (hp5.ne nl1)
    have h18 := ho8 _ _ h12 hna1.symm
    have hml : m.length = n - 1 := by rw [hpo.length_eq, List.length_map, List.length_range]
    refine ⟨l1, M, _, _, rfl, rfl, h18, hM, sz (by rw [nV_len, hml]; simp; omega), fun NL nNL => ?_⟩
    have ho58 := (Off.of (a := a) (t1.trans t2)).trans ho8
    have s9 := same_upd (o := .lst ([V.int 0] ++ nV m)) nNL
    have hN9 := upd_same (H := H8) (a := NL) (o := .lst ([V.int 0] ++ nV m))
    have hp9 := hp8.same s9
    have ho59 := ho58.trans (Off.of s9)
    have hM9 := hM5.off ho59 naP.symm haq
    have o9 := o5.trans ho59
    generalize upd H8 NL (.lst ([V.int 0] ++ nV m)) = H9 at *
    clear h18 hM h12 h2 h1 t1 t2 ho58 ho59 s9 hM5 o5 hp7 hp8 ho8 nM nl1 nl2 hpm hp5 nNL
    obtain ⟨nm, hnme⟩ : ∃ nm : List Nat, nm = 0 :: m := ⟨_, rfl⟩
    have hN9 : H9 NL = some (.lst (nV nm)) := by rw [hnme]; exact hN9
    have hperm : nm.Perm (List.range n) := by
      rw [hnme, show n = (n - 1) + 1 by omega, List.range_succ_eq_map]
      exact List.Perm.cons 0 hpo
    have hnd : nm.Nodup := hperm.nodup_iff.mpr List.nodup_range
    have hn0 : nm[0]? = some 0 := by rw [hnme]; rfl
    have hnl : nm.length = n := by rw [hperm.length_eq, List.length_range]
    have hnm : ∀ p, p < n → p ∈ nm := fun p h => hperm.mem_iff.mpr (List.mem_range.mpr h)
    have hnlt : ∀ s, s < n → nm.getD s 0 < n := fun s hs => by
      rw [List.getD_eq_getElem?_getD, List.getElem?_eq_getElem (by omega)]
      exact List.mem_range.mp (hperm.mem_iff.mp (List.getElem_mem _))
    clear hnme hpo hml
    dsimp only [gName]
    have hqn : qs.length = n := by rw [hM9.len, hT.len]
    refine ⟨_, rfl, Pm, rfl, ⟨_, .inl (.inl hM9.hp)⟩, fun FL nFL => ?_⟩
    have naFL := hp9.ne nFL
    have hPFL : Pm ≠ FL := ne_of_none hM9.hp nFL
    have hNFL : NL ≠ FL := ne_of_none hN9 nFL
    have hqFL : FL ∉ qs := fun h => by
      obtain ⟨i, hi⟩ := List.mem_iff_getElem?.mp h
      exact ne_of_none (hM9.row i FL hi) nFL rfl
    refine lc_dp (walk_list (xs := qs.map V.ref)) (fun i acc H' => Same H9 H' ∧ DpAll K (del H' a) acc (List.replicate i (.list []))) (sz (by rw [List.length_map]; omega)) (fun i acc H' p => by rw [dpAll_len p.2, List.length_replicate]; exact Nat.le_refl _) nFL ⟨Same.refl _, .nil⟩ (fun i acc H' p _ => .inl (.inl ((p.1.trans (del_same _ _)) _ _ hM9.hp))) (fun i x H1 H2 acc C N hi p hD y c nn => ?_) (fun H10 zs hFL p => ?_)
    · obtain ⟨rfl, _⟩ := y
      refine ⟨rfl, yes_te ⟨by show 0 ≤ sizeLine; decide, fun q nq => ?_⟩⟩
      have hqF : q ≠ FL := fun e => by rw [e, hD] at nq; cases nq
      have s02 := p.1.trans (del_same _ _)
      have hqa : q ≠ a := ((hp9.same s02).ne nq).symm
      refine c _ _ (same_upd nq _ _ hD) ⟨same_del (s02.trans (same_upd nq)) nFL, ?_⟩
      rw [del_new hqF, del_new hqa, List.replicate_succ']
      have nq' : del (del H2 FL) a q = none := by rw [del_ne hqa, del_ne hqF]; exact nq
      exact dpAll_app (DpAll.same (same_upd nq') p.2) (.cons (.lst (.inl (.inl upd_same)) .nil) .nil)
    obtain ⟨sm9, hA0⟩ := p
    rw [List.length_map, hqn] at hA0
    have s910 := sm9.trans (del_same _ _)
    have hp10 := hp9.same s910
    have hM10 := hM9.same s910
    have hN10 := s910 _ _ hN9
    have o10 := o9.trans (Off.of s910)
    have nF0' := o9.free nFL hp9
    clear hM9 hN9 sm9 s910 o9 hp9
    have hA0 : DpAll K (del (del H10 FL) a) zs ((fRows n nm R 0).map fun r => .list (dN r)) := by
      rw [fRows_zero, List.map_replicate]
      exact hA0
    dsimp only [gName]
    have hRl : R.length = n := hT.len
    have hxF : ∀ s, s < n → ((nV nm)[s]? : Option V) = some (.int ((nm.getD s 0 : Nat) : Int)) := fun s hs => nV_get (by rw [List.getD_eq_getElem?_getD, List.getElem?_eq_getElem (by omega)]; rfl)
    refine ⟨_, rfl, .L Pm, qs.map V.ref, rfl, .inl (.inl hM10.hp), for_it walk_enumS (fun j σ H' => ∃ (s7 s9 s10 s11 : Option V) (zs : List V), σ = [some (.ref a), some (.int (n : Int)), some (.int (z : Int)), some (.ref Pm), some (.ref F), some (.int (wy : Int)), none, s7, s8, s9, s10, s11, some (.ref NL), some (.ref FL), none] ∧
        Pot H' a ∧ Off a H H' ∧ Mat H' Pm qs R ∧ H' NL = some (.lst (nV nm)) ∧ H' FL = some (.lst zs) ∧ DpAll K (del (del H' FL) a) zs ((fRows n nm R j).map fun r => .list (dN r)))
      ⟨_, _, _, _, zs, rfl, hp10, o10, hM10, hN10, hFL, hA0⟩ (fun j σ H' _ p => by obtain ⟨_, _, _, _, _, _, _, _, hM, _⟩ := p; exact .inl (.inl hM.hp)) (fun j x σ H11 H12 hj pp yy => ?_) (fun σ H11 pp => ?_)⟩
    · clear hp10 o10 hM10 hN10 hFL hA0
      obtain ⟨s7, s9, s10, s11, zs, rfl, hp11, o11, hM11, hN11, hF11, hA11⟩ := pp
      obtain ⟨Tp, x1, x2, rfl, nT, rfl, e1, e2⟩ := yy
      cases e1
      rw [List.length_map, hqn] at hj
      obtain ⟨qj, hqj⟩ : ∃ q, qs[j]? = some q := ⟨qs[j], List.getElem?_eq_getElem (by omega)⟩
      have e2 : (qs.map V.ref)[j]? = some x2 := e2
      rw [List.getElem?_map, hqj] at e2
      cases e2
      have u1 := same_upd (o := .tup [.int (j : Nat), .ref qj]) nT
      refine ⟨Tp, _, rfl, .inl (.inl upd_same), rfl, _, _, rfl, _, _, rfl, rfl, ?_⟩
      generalize upd H11 Tp (.tup [.int (j : Nat), .ref qj]) = H12 at *
      have hr12 := u1 _ _ (hM11.row j qj hqj)
      have hN12 := u1 _ _ hN11
      have hF12 := u1 _ _ hF11
      have hzl : zs.length = n := by rw [dpAll_len hA11, List.length_map, fRows_len]
      dsimp only
      refine ⟨_, rfl, qj, rfl, ⟨_, .inl (.inl hr12)⟩, fun D nD => ?_⟩
      have hrl := hT.rl j hj
      have naD := (hp11.same u1).ne nD
      have hDF : D ≠ FL := fun e => by rw [e, hF12] at nD; cases nD
      refine lc_gen (walk_list (xs := nV (M14.row R j))) (Same H12) (fun i acc => acc = nV (((M14.row R j).take i).map fun g => nm.getD g 0)) (sz (by rw [nV_len]; omega)) (fun i acc e => by rw [e, nV_len, List.length_map, List.length_take]; exact Nat.min_le_left _ _) rfl (same_upd nD) (fun _ _ h => same_up h nD) (fun _ h => .inl (.inl (h _ _ hr12))) (fun i x H13 H14 acc C N hi r hD ha y c n' => ?_) (fun H13 ys r hD ha => ?_)
      · obtain ⟨rfl, y⟩ := y
        obtain ⟨g, hg, rfl⟩ := nV_inv y
        have hgl := hT.lt j hj g (List.mem_of_getElem? hg)
        refine ⟨rfl, yes_te ⟨_, rfl, _, rfl, NL, _, _, .int ((nm.getD g 0 : Nat) : Int), rfl, rfl, .inl (.inl (r _ _ hN12)), atI_nat (hxF g hgl), ?_⟩⟩
        refine c _ _ r hD ?_
        rw [ha, List.take_add_one, hg, List.map_append]
        exact (nV_snoc _ _).symm
      subst ha
      rw [nV_len, List.take_length] at hD
      have hF13 := r _ _ hF12
      refine ⟨_, rfl, _, rfl, _, rfl, NL, _, _, .int ((nm.getD j 0 : Nat) : Int), rfl, rfl, .inl (.inl (r _ _ hN12)), atI_nat (hxF j hj), ?_⟩
      have ixz : ixN zs.length ((nm.getD j 0 : Nat) : Int) = some (nm.getD j 0) := by
        have := hnlt j hj
        unfold ixN
        rw [if_pos (by omega), if_pos (by omega)]
        rfl
      refine ⟨FL, _, _, _, rfl, rfl, hF13, ixz, ?_⟩
      have s113 := u1.trans r
      have hp13 := hp11.same s113
      refine ⟨_, _, _, _, _, rfl, hp13.up naFL, (o11.trans (Off.of s113)).up nF0', (hM11.same s113).step fun b hb u e => ?_, ?_, upd_same, ?_⟩
      · rw [upd_ne (fun w => hb.elim (fun h => hPFL (h ▸ w)) fun h => hqFL (w ▸ h))]
        exact e
      · rw [upd_ne hNFL]
        exact s113 _ _ hN11
      · rw [fRows_succ hnd R (by omega) (hnlt j hj) hnm, List.map_set]
        have e : del (upd H13 FL (.lst (zs.set (nm.getD j 0) (.ref D)))) FL = del H13 FL := del_upd _ _ _
        rw [e]
        refine dpAll_setZ _ (DpAll.same (del_mono _ (del_mono _ s113)) hA11) (.lst (.inl (.inl ?_)) (dpAll_nV _))
        rw [del_ne naD.symm, del_ne hDF]
        exact hD
    · clear hp10 o10 hM10 hN10 hFL hA0
      obtain ⟨s7, s9, s10, s11, zs, rfl, hp11, o11, hM11, hN11, hF11, hA11⟩ := pp
      rw [List.length_map, hqn] at hA11
      dsimp only
      have hgd : ∀ k : List Bool, k.length = n → M14.Good z (fRows n nm R n) k := fun k hk => M72.Tree.good hT hn (by omega) hperm hn0 (fRows_len _ _ _ _) (fun s hs => fRows_row hnd R (by omega) (hnlt s hs) hs) hk
      refine ⟨_, rfl, q _ FL _ (fRows_len n nm R n) hgd hp11 o11 nF0' (.lst (.inl (.inl (by rw [del_ne naFL.symm]; exact hF11))) (DpAll.same (del_mono _ (del_same _ _)) hA11))⟩
end
end Lw
namespace M11
def ins (ks : List (List Nat)) (k : List Nat) : List (List Nat) := if k ∈ ks then ks else ks ++ [k]
/-- how many letters of t have come behind w, from the place at on -/
def come (t : List Nat) (w : List Nat) (k : Nat) : Nat := w.foldl (fun k c => if t[k]? = some c then k + 1 else k) k
theorem come_le (t : List Nat) : ∀ (w : List Nat) (k : Nat), k ≤ t.length → come t w k ≤ t.length
  | [], k, h => h
  | c :: w, k, h => by
    show come t w (if t[k]? = some c then k + 1 else k) ≤ _
    split
    · rename_i e
      have := (List.getElem?_eq_some_iff.mp e).1
      exact come_le t w _ this
    · exact come_le t w _ h
theorem come_iff (t : List Nat) : ∀ (w : List Nat) (k : Nat), k ≤ t.length → (come t w k = t.length ↔ (t.drop k).Sublist w)
  | [], k, h => by
    show k = t.length ↔ _
    rw [List.sublist_nil]
    constructor
    · rintro rfl; simp
    · intro e
      have := congrArg List.length e
      rw [List.length_drop] at this
      simp at this
      omega
  | c :: w, k, h => by
    show come t w (if t[k]? = some c then k + 1 else k) = _ ↔ _
    by_cases hk : k < t.length
    · have hd : t.drop k = t[k] :: t.drop (k + 1) := List.drop_eq_getElem_cons hk
      by_cases e : t[k]? = some c
      · rw [if_pos e, come_iff t w (k + 1) hk, hd]
        have e2 : t[k] = c := by
          rw [List.getElem?_eq_getElem hk] at e
          exact Option.some.inj e
        rw [e2]
        constructor
        · exact fun h => h.cons_cons c
        · intro h
          cases h with
          | cons _ h => exact (List.sublist_cons_self _ _).trans h
          | cons_cons _ h => exact h
      · rw [if_neg e, come_iff t w k h, hd]
        constructor
        · exact fun h => h.cons c
        · intro h
          cases h with
          | cons _ h => exact h
          | cons_cons _ h => exact absurd (by rw [List.getElem?_eq_getElem hk]) e
    · have e0 : k = t.length := by omega
      have hn : t[k]? = none := List.getElem?_eq_none (by omega)
      rw [hn, if_neg (by simp), come_iff t w k h]
      have : t.drop k = [] := List.drop_of_length_le (by omega)
      rw [this]
      simp
end M11
namespace M34
open M14
/-- how many letters of t have come -/
def adv (t : List Nat) (i c : Nat) : Nat := if t[i]? = some c then i + 1 else i
def pas (t w : List Nat) : Nat := w.foldl (adv t) 0
def isP (t w : List Nat) : Bool := decide (pas t w = t.length)
theorem adv_le {t : List Nat} {i c : Nat} (h : i ≤ t.length) : adv t i c ≤ t.length := by
  unfold adv
  split
  · have := (List.getElem?_eq_some_iff.mp (by assumption)).1; omega
  · exact h
theorem fold_sub (t : List Nat) : ∀ (w : List Nat) (i : Nat), i ≤ t.length → (w.foldl (adv t) i ≤ t.length ∧ (w.foldl (adv t) i = t.length ↔ (t.drop i).Sublist w))
  | [], i, h => ⟨h, by
    rw [List.foldl_nil, List.sublist_nil, List.drop_eq_nil_iff]
    omega⟩
  | c :: w, i, h => by
    rw [List.foldl_cons]
    have ih := fold_sub t w (adv t i c) (adv_le h)
    refine ⟨ih.1, ih.2.trans ?_⟩
    unfold adv
    by_cases e : t[i]? = some c
    · rw [if_pos e]
      obtain ⟨hi, e'⟩ := List.getElem?_eq_some_iff.mp e
      rw [List.drop_eq_getElem_cons hi, e', List.cons_sublist_cons]
    · rw [if_neg e]
      by_cases hi : i < t.length
      · rw [List.drop_eq_getElem_cons hi]
        have hne : t[i] ≠ c := fun z => e (by rw [List.getElem?_eq_getElem hi, z])
        constructor
        · exact fun s => s.cons c
        · intro s
          cases s with
          | cons _ s => exact s
          | cons_cons _ s => exact absurd rfl hne
      · rw [List.drop_of_length_le (by omega)]
        simp
theorem pas_le (t w : List Nat) : pas t w ≤ t.length := (fold_sub t w 0 (Nat.zero_le _)).1
theorem isP_iff {t w : List Nat} : isP t w = true ↔ t.Sublist w := by
  unfold isP
  rw [decide_eq_true_iff]
  exact (fold_sub t w 0 (Nat.zero_le _)).2
theorem isP_no {t w : List Nat} : isP t w = false ↔ ¬ t.Sublist w := by rw [← isP_iff]; simp
/-- texts by length -/
def lvl (sg : List Nat) : Nat → List (List Nat)
  | 0 => [[]]
  | m + 1 => (lvl sg m).flatMap fun t => sg.map fun c => t ++ [c]
def texts (sg : List Nat) : Nat → List (List Nat)
  | 0 => [[]]
  | m + 1 => texts sg m ++ lvl sg (m + 1)
theorem lvl_mem {sg : List Nat} : ∀ {m : Nat} {t : List Nat}, t ∈ lvl sg m ↔ t.length = m ∧ ∀ c ∈ t, c ∈ sg
  | 0, t => by
    constructor
    · intro h
      cases (List.mem_singleton.mp h)
      exact ⟨rfl, fun c hc => by cases hc⟩
    · rintro ⟨h, _⟩
      rw [List.length_eq_zero_iff.mp h]
      exact List.mem_singleton.mpr rfl
  | m + 1, t => by
    show t ∈ (lvl sg m).flatMap _ ↔ _
    rw [List.mem_flatMap]
    constructor
    · rintro ⟨s, hs, ht⟩
      obtain ⟨c, hc, rfl⟩ := List.mem_map.mp ht
      obtain ⟨h1, h2⟩ := lvl_mem.mp hs
      refine ⟨by rw [List.length_append, h1]; rfl, fun d hd => ?_⟩
      rcases List.mem_append.mp hd with hd | hd
      · exact h2 d hd
      · rw [List.mem_singleton.mp hd]; exact hc
    · rintro ⟨h1, h2⟩
      have hne : t ≠ [] := fun z => by rw [z] at h1; cases h1
      refine ⟨t.dropLast, lvl_mem.mpr ⟨by rw [List.length_dropLast]; omega, fun c hc => h2 c ((List.dropLast_sublist t).subset hc)⟩, List.mem_map.mpr ⟨t.getLast hne, h2 _ (List.getLast_mem hne), List.dropLast_concat_getLast hne⟩⟩
theorem texts_mem {sg : List Nat} : ∀ {m : Nat} {t : List Nat}, t ∈ texts sg m ↔ t.length ≤ m ∧ ∀ c ∈ t, c ∈ sg
  | 0, t => by
    have := lvl_mem (sg := sg) (m := 0) (t := t)
    rw [show texts sg 0 = lvl sg 0 from rfl, this]
    constructor
    · rintro ⟨a, b⟩; exact ⟨by omega, b⟩
    · rintro ⟨a, b⟩; exact ⟨by omega, b⟩
  | m + 1, t => by
    show t ∈ texts sg m ++ lvl sg (m + 1) ↔ _
    rw [List.mem_append, texts_mem, lvl_mem]
    constructor
    · rintro (⟨a, b⟩ | ⟨a, b⟩)
      · exact ⟨by omega, b⟩
      · exact ⟨by omega, b⟩
    · rintro ⟨a, b⟩
      by_cases h : t.length ≤ m
      · exact .inl ⟨h, b⟩
      · exact .inr ⟨by omega, b⟩
theorem flat_len {α β : Type} (f : α → List β) (k : Nat) : ∀ l : List α, (∀ x ∈ l, (f x).length = k) → (l.flatMap f).length = l.length * k
  | [], _ => by simp
  | x :: l, h => by
    rw [List.flatMap_cons, List.length_append, flat_len f k l (fun y hy => h y (List.mem_cons_of_mem _ hy)), h x List.mem_cons_self, List.length_cons, Nat.add_mul]
    omega
theorem lvl_len (sg : List Nat) : ∀ m, (lvl sg m).length = sg.length ^ m
  | 0 => rfl
  | m + 1 => by
    show ((lvl sg m).flatMap _).length = _
    rw [flat_len _ sg.length _ (fun x _ => by rw [List.length_map]), lvl_len sg m, Nat.pow_succ]
section
variable (sg : List Nat) (R : List (List Nat)) (k : List Bool)
def tak (t : List Nat) : Bool := kAt k (led sg R 0 t)
def stepL (f : List (List Nat)) (t : List Nat) : List (List Nat) := if (tak sg R k t && !(f.any fun o => isP o t)) = true then f ++ [t] else f
def leastL : List (List Nat) := (texts sg (R.length - 1)).foldl (stepL sg R k) []
variable {sg R k}
theorem stepL_pre (f : List (List Nat)) (t : List Nat) : f <+: stepL sg R k f t := by
  unfold stepL
  split
  · exact List.prefix_append _ _
  · exact List.prefix_refl _
theorem foldL_pre : ∀ (ts f : List (List Nat)), f <+: ts.foldl (stepL sg R k) f
  | [], f => List.prefix_refl _
  | t :: ts, f => (stepL_pre f t).trans (foldL_pre ts _)
theorem foldL_mem : ∀ {ts f : List (List Nat)} {x : List Nat}, x ∈ ts.foldl (stepL sg R k) f → x ∈ f ∨ (x ∈ ts ∧ tak sg R k x = true)
  | [], f, x, h => .inl h
  | t :: ts, f, x, h => by
    rcases foldL_mem (ts := ts) h with h | ⟨h, e⟩
    · unfold stepL at h
      split at h
      · rename_i hc
        rcases List.mem_append.mp h with h | h
        · exact .inl h
        · rw [List.mem_singleton.mp h]
          exact .inr ⟨List.mem_cons_self, by rw [Bool.and_eq_true] at hc; exact hc.1⟩
      · exact .inl h
    · exact .inr ⟨List.mem_cons_of_mem _ h, e⟩
theorem foldL_has : ∀ {ts f : List (List Nat)} {x : List Nat}, x ∈ ts → tak sg R k x = true → ∃ l ∈ ts.foldl (stepL sg R k) f, l.Sublist x
  | t :: ts, f, x, h, e => by
    rcases List.mem_cons.mp h with rfl | h
    · have : ∃ l ∈ stepL sg R k f x, l.Sublist x := by
        unfold stepL
        split
        · exact ⟨x, List.mem_append_right _ List.mem_cons_self, List.Sublist.refl _⟩
        · rename_i hc
          rw [e, Bool.true_and] at hc
          have hc : f.any (fun o => isP o x) = true := by
            cases q : f.any (fun o => isP o x) with
            | true => rfl
            | false => exact absurd (by rw [q]; rfl) hc
          obtain ⟨l, hl, hs⟩ := List.any_eq_true.mp hc
          exact ⟨l, hl, isP_iff.mp hs⟩
      obtain ⟨l, hl, hs⟩ := this
      exact ⟨l, (foldL_pre ts _).subset hl, hs⟩
    · have := foldL_has (ts := ts) (f := stepL sg R k f t) h e
      exact this
theorem least_mem {l : List Nat} (h : l ∈ leastL sg R k) : l.length ≤ R.length - 1 ∧ (∀ c ∈ l, c ∈ sg) ∧ tak sg R k l = true := by
  rcases foldL_mem h with h | ⟨h, e⟩
  · cases h
  · obtain ⟨a, b⟩ := texts_mem.mp h
    exact ⟨a, b, e⟩
theorem led_app (p : Nat) (a b : List Nat) : led sg R p (a ++ b) = led sg R (led sg R p a) b := List.foldl_append
/-- a text that is as long as there are places meets one twice -/
theorem pump (h : Sht sg.length R k) {t : List Nat} (ht : ∀ c ∈ t, c ∈ sg) (hz : R.length ≤ t.length) : ∃ a b c : List Nat, t = a ++ b ++ c ∧ b ≠ [] ∧ led sg R 0 (a ++ c) = led sg R 0 t := by
  have hn : ¬ ((List.range (t.length + 1)).map fun i => led sg R 0 (t.take i)).Nodup := fun hd => by
    have := nodup_len R.length _ hd (fun x hx => by
      obtain ⟨i, _, rfl⟩ := List.mem_map.mp hx
      exact led_lt h h.ne (fun c hc => ht c (List.mem_of_mem_take hc)))
    rw [List.length_map, List.length_range] at this
    omega
  have : ∃ i j, i < j ∧ j ≤ t.length ∧ led sg R 0 (t.take i) = led sg R 0 (t.take j) := by
    apply Classical.byContradiction
    intro hx
    apply hn
    rw [List.Nodup, List.pairwise_map]
    refine List.Pairwise.imp_of_mem (R := fun i j => i < j) (fun hi hj hij e => hx ⟨_, _, hij, by have := List.mem_range.mp hj; omega, e⟩) List.pairwise_lt_range
  obtain ⟨i, j, hij, hj, e⟩ := this
  refine ⟨t.take i, (t.take j).drop i, t.drop j, ?_, ?_, ?_⟩
  · have e1 : t.take i ++ (t.take j).drop i = t.take j := by
      have := List.take_append_drop i (t.take j)
      rwa [List.take_take, Nat.min_eq_left (Nat.le_of_lt hij)] at this
    rw [e1, List.take_append_drop]
  · intro z
    have := congrArg List.length z
    rw [List.length_drop, List.length_take, Nat.min_eq_left hj, List.length_nil] at this
    omega
  · rw [led_app, e, ← led_app, List.take_append_drop]
theorem least_has (h : Sht sg.length R k) : ∀ (n : Nat) {t : List Nat}, t.length ≤ n → (∀ c ∈ t, c ∈ sg) → tak sg R k t = true → ∃ l ∈ leastL sg R k, l.Sublist t
  | n, t, hn, ht, e => by
    by_cases hz : R.length ≤ t.length
    · obtain ⟨a, b, c, rfl, hb, hl⟩ := pump h ht hz
      have hlen : (a ++ c).length < (a ++ b ++ c).length := by
        have : 0 < b.length := List.length_pos_iff.mpr hb
        simp only [List.length_append]
        omega
      have hsub : (a ++ c).Sublist (a ++ b ++ c) := by
        rw [List.append_assoc]
        exact List.Sublist.append (List.Sublist.refl a) (List.sublist_append_right b c)
      cases n with
      | zero => omega
      | succ n =>
        obtain ⟨l, h1, h2⟩ := least_has h n (by omega) (fun d hd => ht d (hsub.subset hd)) (by unfold tak at e ⊢; rw [hl]; exact e)
        exact ⟨l, h1, h2.trans hsub⟩
    · exact foldL_has (texts_mem.mpr ⟨by have := h.ne; omega, ht⟩) e
/-- a text is a part of all taken ones -/
def sureT (sg : List Nat) (R : List (List Nat)) (k : List Bool) (t : List Nat) : Prop := ∀ w, (∀ c ∈ w, c ∈ sg) → tak sg R k w = true → t.Sublist w
theorem sure_iff (h : Sht sg.length R k) {t : List Nat} : sureT sg R k t ↔ ∀ l ∈ leastL sg R k, t.Sublist l := by
  constructor
  · intro s l hl
    obtain ⟨_, b, c⟩ := least_mem hl
    exact s l b c
  · intro s w hw e
    obtain ⟨l, h1, h2⟩ := least_has h w.length (Nat.le_refl _) hw e
    exact (s l h1).trans h2
end
theorem snoc_ind {P : List Nat → Prop} (h0 : P []) (h1 : ∀ l c, P l → P (l ++ [c])) (l : List Nat) : P l := by
  have : ∀ m : List Nat, P m.reverse := fun m => by
    induction m with
    | nil => exact h0
    | cons c m ih => rw [List.reverse_cons]; exact h1 _ _ ih
  have e := this l.reverse
  rwa [List.reverse_reverse] at e
/-- all parts of a text -/
def subs (l : List Nat) : List (List Nat) := l.foldl (fun s c => s ++ s.map fun t => t ++ [c]) [[]]
theorem subs_snoc (l : List Nat) (c : Nat) : subs (l ++ [c]) = subs l ++ (subs l).map fun t => t ++ [c] := by unfold subs; rw [List.foldl_append]; rfl
theorem subs_len (l : List Nat) : (subs l).length = 2 ^ l.length := by
  refine snoc_ind (P := fun l => (subs l).length = 2 ^ l.length) rfl (fun l c ih => ?_) l
  rw [subs_snoc, List.length_append, List.length_map, ih, List.length_append, List.length_singleton, Nat.pow_succ]
  omega
theorem subs_mem (l : List Nat) : ∀ {t : List Nat}, t ∈ subs l ↔ t.Sublist l := by
  refine snoc_ind (P := fun l => ∀ {t : List Nat}, t ∈ subs l ↔ t.Sublist l) ?_ (fun l c ih => ?_) l
  · intro t
    rw [List.sublist_nil]
    exact List.mem_singleton
  · intro t
    rw [subs_snoc, List.mem_append, ih, List.mem_map, List.sublist_append_iff]
    constructor
    · rintro (h | ⟨s, h, rfl⟩)
      · exact ⟨t, [], by simp, h, List.nil_sublist _⟩
      · exact ⟨s, [c], rfl, ih.mp h, List.Sublist.refl _⟩
    · rintro ⟨a, b, rfl, h1, h2⟩
      have hb : b = [] ∨ b = [c] := by
        cases h2 with
        | cons _ h => exact .inl (List.sublist_nil.mp h)
        | cons_cons _ h => rw [List.sublist_nil.mp h]; exact .inr rfl
      rcases hb with rfl | rfl
      · exact .inl (by simpa using h1)
      · exact .inr ⟨a, ih.mpr h1, rfl⟩
open M23 in
theorem emb_tP {t q : List Nat} (hq : 42 ∉ q) : Emb (tP t) (tP q) ↔ t.Sublist q := by
  constructor
  · induction q generalizing t with
    | nil => intro h; have := emb_nil h; cases t with
      | nil => exact List.Sublist.refl _
      | cons c t => cases this
    | cons d q ih =>
      intro h
      have hd : d ≠ 42 := fun z => hq (by rw [z]; exact List.mem_cons_self)
      have hq' : 42 ∉ q := fun z => hq (List.mem_cons_of_mem _ z)
      cases t with
      | nil => exact List.nil_sublist _
      | cons c t =>
        cases h with
        | skip _ h => exact (ih (t := c :: t) hq' h).cons d
        | one hs h => exact (ih hq' h).cons_cons d
        | star hs hh h => rw [isS_one hd] at hs; cases hs
  · intro h
    induction h with
    | slnil => exact Emb.refl _
    | cons d _ ih => exact Emb.skip _ (ih fun z => hq (List.mem_cons_of_mem _ z))
    | cons_cons d _ ih => exact (ih fun z => hq (List.mem_cons_of_mem _ z)).cons _
open M23 in
theorem allOk_tP {ts : List (List Nat)} (h : ∀ q ∈ ts, 42 ∉ q) : AllOk (ts.map tP) := fun p hp x hx => by
  obtain ⟨q, hq, rfl⟩ := List.mem_map.mp hp
  obtain ⟨c, hc, rfl⟩ := List.mem_map.mp hx
  exact .inl ⟨c, fun z => h q hq (by rw [← z]; exact hc), rfl⟩
open M23 in
theorem inS_sure {ts : List (List Nat)} (h : ∀ q ∈ ts, 42 ∉ q) {t : List Nat} : InS (kept (ts.map tP)) t ↔ ∃ q ∈ ts, t.Sublist q := by
  rw [inS_kept (allOk_tP h)]
  constructor
  · rintro ⟨p, hp, hi⟩
    obtain ⟨q, hq, rfl⟩ := List.mem_map.mp hp
    exact ⟨q, hq, (emb_tP (h q hq)).mp hi⟩
  · rintro ⟨q, hq, hs⟩
    exact ⟨tP q, List.mem_map_of_mem hq, (emb_tP (h q hq)).mpr hs⟩
open M23 in
theorem red_tP {q : List Nat} (h : 42 ∉ q) : Red (tP q) := red_iff.mpr fun u a b v e hi => by
  have ha : a ∈ tP q := by rw [e]; simp
  have hb : b ∈ tP q := by rw [e]; simp
  obtain ⟨c, hc, rfl⟩ := List.mem_map.mp ha
  obtain ⟨d, hd, rfl⟩ := List.mem_map.mp hb
  rcases hi with ⟨z, _⟩ | ⟨z, _⟩
  · rw [isS_one (fun y => h (by rw [← y]; exact hc))] at z; cases z
  · rw [isS_one (fun y => h (by rw [← y]; exact hd))] at z; cases z
open M23 in
theorem kept_tP {ts : List (List Nat)} (h : ∀ q ∈ ts, 42 ∉ q) {p : Pd} (hp : p ∈ kept (ts.map tP)) : ∃ q ∈ ts, p = tP q := by
  obtain ⟨p', h1, rfl⟩ := kept_mem hp
  obtain ⟨q, hq, rfl⟩ := List.mem_map.mp h1
  refine ⟨q, hq, red_self ⟨fun x hx => allOk_tP h _ (List.mem_map_of_mem hq) x hx, red_tP (h q hq)⟩⟩
/-- the texts that are parts of all least taken ones -/
def sureL (L : List (List Nat)) : List (List Nat) := match L with
  | [] => []
  | l :: L => (subs l).filter fun t => (l :: L).all fun o => isP t o
theorem sureL_mem {l : List Nat} {L : List (List Nat)} {t : List Nat} : t ∈ sureL (l :: L) ↔ ∀ o ∈ l :: L, t.Sublist o := by
  show t ∈ (subs l).filter _ ↔ _
  rw [List.mem_filter, subs_mem, List.all_eq_true]
  constructor
  · rintro ⟨_, h⟩ o ho
    exact isP_iff.mp (h o ho)
  · intro h
    exact ⟨h l List.mem_cons_self, fun o ho => isP_iff.mpr (h o ho)⟩
theorem sureL_down {l : List Nat} {L : List (List Nat)} {t : List Nat} : (∃ q ∈ sureL (l :: L), t.Sublist q) ↔ ∀ o ∈ l :: L, t.Sublist o := by
  constructor
  · rintro ⟨q, hq, hs⟩ o ho
    exact hs.trans (sureL_mem.mp hq o ho)
  · intro h
    exact ⟨t, sureL_mem.mpr h, List.Sublist.refl _⟩
theorem sureL_len {l : List Nat} {L : List (List Nat)} : (sureL (l :: L)).length ≤ 2 ^ l.length := by
  rw [← subs_len]
  exact List.length_filter_le _ _
/-- what the sum of the sure parts keeps -/
def sureK (sg : List Nat) (L : List (List Nat)) : List M23.Pd := match L with
  | [] => M23.kept [[sg ++ [42]]]
  | l :: L => M23.kept ((sureL (l :: L)).map M23.tP)
open M23 in
theorem in_whole {sg t : List Nat} (ht : ∀ c ∈ t, c ∈ sg) (h42 : 42 ∉ sg) : In [sg ++ [42]] t := by
  show Emb (tP t) _
  induction t with
  | nil => exact .nil _
  | cons c t ih =>
    refine Emb.star (isS_star sg) ((holds_star (isS_star sg)).mpr fun d hd => ?_) (ih fun d hd => ht d (List.mem_cons_of_mem _ hd))
    have hc : c ≠ 42 := fun z => h42 (by rw [← z]; exact ht c List.mem_cons_self)
    rw [lt_one hc, List.mem_singleton] at hd
    rw [hd, lt_star]
    exact ht c List.mem_cons_self
end M34
namespace Lw
open PySem PySem.Spec PyProof.Rows L3
open L2 hiding del del_same del_ne
theorem kept_one (p : M23.Pd) : M23.kept [p] = [M23.redOf p] := by
  have h1 : M23.redOf p ∈ M23.kept [p] := M23.maxs_mem.mpr ⟨by simp, fun q hq hne => by
    simp at hq
    exact absurd hq hne⟩
  have h2 := M23.kept_len [p]
  cases e : M23.kept [p] with
  | nil => rw [e] at h1; cases h1
  | cons x l =>
    rw [e] at h2 h1
    have hl : l = [] := List.length_eq_zero_iff.mp (by rw [List.length_cons] at h2; simp at h2; exact List.length_eq_zero_iff.mpr h2)
    subst hl
    rw [List.mem_singleton.mp h1]
section
variable {P : Program} {w : World} {K : PySem.W.Frag} {mg : Str → Option Value} {base : Heap}
def spWantTexts (K : PySem.W.Frag) : Sp := fun vs H Q _ => ∃ (a : Addr) (ls : List (List Nat)), vs = [.ref a] ∧ SqL K H a (ls.map tx) ∧ (∀ l ∈ ls, (∀ c ∈ l, 97 ≤ c ∧ c ≤ 122) ∧ l.length ≤ 1000) ∧ ∀ H', Same H H' → Q .non H'
theorem ok_want_texts (T : All K mg) : FnOk P w K mg base CX0 2 T.f_want_texts_parts T.d_want_texts_parts ["texts"] (spWantTexts K) := by
  refine T.want_texts_parts.F.ok sc_want_texts_parts (fun vs H Q E h => ?_) (fun cdv A outer s H vs Q E hr h => ?_)
  · obtain ⟨a, ls, rfl, _⟩ := h
    rfl
  · obtain ⟨a, ls, rfl, hS, hl, q⟩ := h
    refine ⟨_, pss_one (ps_for PassesOwn.never rfl (pi_list (pv 0)) (pg_name (i := 1) sc_want_texts_parts.nd rfl (.inl rfl))
      (pss_one (ps_if (pt_not (pt_val (pe_call (ok_is_text T) hr (by rfl) T.is_text.g T.is_text.F.kp T.is_text.b .nil pass0 (pa_cons (pv 1) pa_nil)))) (pss_one ps_never) pss_nil))), ?_⟩
    refine ⟨.ref a, rfl, a, rfl, ⟨_, hS⟩, for_list (xs := ls.map tx) (fun i σ H' => ∃ y, σ = [some (.ref a), y] ∧ Same H H') ⟨none, rfl, Same.refl H⟩ (fun i σ H' _ p => p.elim fun y p => p.2.seq hS) (fun i x σ H' hx p => ?_) (fun σ H' p => ?_)⟩
    · obtain ⟨y, rfl, sm⟩ := p
      rw [List.getElem?_map] at hx
      obtain ⟨l, hl1, rfl⟩ := Option.map_eq_some_iff.mp hx
      refine ⟨_, rfl, l, rfl, (hl l (List.mem_of_getElem? hl1)).1, (hl l (List.mem_of_getElem? hl1)).2, fun H2 sm2 => ?_⟩
      exact ⟨true, rfl, iteF ⟨_, rfl, sm.trans sm2⟩⟩
    · obtain ⟨y, rfl, sm⟩ := p
      exact q _ sm
theorem come_take (t w : List Nat) (i c : Nat) (h : w[i]? = some c) : M11.come t (w.take (i + 1)) 0 = if t[M11.come t (w.take i) 0]? = some c then M11.come t (w.take i) 0 + 1 else M11.come t (w.take i) 0 := by
  unfold M11.come
  rw [List.take_add_one, h, List.foldl_append]
  rfl
def spPartOf : Sp := fun vs H Q _ => ∃ t w, vs = [tx t, tx w] ∧ t.length ≤ sizeLine ∧ w.length ≤ sizeLine ∧ ∀ H', Same H H' → Q (.bl (decide (t.Sublist w))) H'
theorem ok_is_part_of (T : All K mg) : FnOk P w K mg base CX0 1 T.f_is_part_of T.d_is_part_of ["text", "whole"] spPartOf := by
  refine T.is_part_of.F.ok sc_is_part_of (fun vs H Q E h => ?_) (fun cdv A outer s H vs Q E hr h => ?_)
  · obtain ⟨t, w, rfl, _⟩ := h
    rfl
  · obtain ⟨t, w, rfl, ht, hw, q⟩ := h
    refine ⟨_, pss_cons (ps_set (i := 2) sc_is_part_of.nd rfl (.inl rfl) pe_int)
      (pss_cons (ps_for PassesOwn.never rfl (pi_str (pv 1)) (pg_name (i := 3) sc_is_part_of.nd rfl (.inl rfl))
        (pss_one (ps_if (PW.pt (pw_and (pt_cmpR op_lt (pv 2) (pe_callB call_lenT (by rfl) T.b_len PySem.boot_len (pa_cons (pv 0) pa_nil)) (nomark _)) (pw_and1 (pt_cmpR op_eq (pe_ix ix_tx (pv 0) (pv 2) (fun _ _ => rfl)) (pv 3) (nomark _)))))
          (pss_one (ps_set (i := 2) sc_is_part_of.nd rfl (.inl rfl) (pe_op op_add (pv 2) pe_int))) pss_nil)))
      (pss_one (ps_ret (pe_cmpR op_eq (pv 2) (pe_callB call_lenT (by rfl) T.b_len PySem.boot_len (pa_cons (pv 0) pa_nil)) (nomark _))))), ?_⟩
    refine ⟨tx w, rfl, tS w, rfl, for_it walk_tx (fun i σ H' => ∃ y, σ = [some (tx t), some (tx w), some (.int (M11.come t (w.take i) 0 : Nat)), y] ∧ H' = H) ⟨none, rfl, rfl⟩ (fun _ _ _ _ _ => trivial) (fun i x σ H1 H2 hi p y => ?_) (fun σ H' p => ?_)⟩
    · obtain ⟨y0, rfl, rfl⟩ := p
      obtain ⟨rfl, c, hc, rfl⟩ := y
      have hstep := come_take t w i c hc
      have hle := M11.come_le t (w.take i) 0 (Nat.zero_le _)
      refine ⟨_, rfl, _, rfl, t, rfl, ht, _, _, rfl, rfl, _, rfl, ite2 (fun e => ?_) (fun e => ?_)⟩
      · have hlt : M11.come t (w.take i) 0 < t.length := by
          have := of_decide_eq_true e
          omega
        refine ⟨_, rfl, _, rfl, t, _, t[M11.come t (w.take i) 0], rfl, rfl, ht, List.getElem?_eq_getElem hlt, _, rfl, rfl, _, rfl, ite2 (fun e2 => ?_) (fun e2 => ?_)⟩
        · have ec : t[M11.come t (w.take i) 0] = c := by
            have := tx_inj (of_decide_eq_true e2)
            simpa using this
          refine ⟨_, rfl, _, _, rfl, rfl, some (tx [c]), ?_, rfl⟩
          rw [hstep, if_pos (by rw [List.getElem?_eq_getElem hlt, ec])]
          rfl
        · refine ⟨some (tx [c]), ?_, rfl⟩
          rw [hstep, if_neg (fun z => e2 ?_)]
          · rfl
          · rw [List.getElem?_eq_getElem hlt] at z
            rw [Option.some.inj z]
            exact decide_eq_true rfl
      · refine iteF ?_
        refine ⟨some (tx [c]), ?_, rfl⟩
        have hge : t.length ≤ M11.come t (w.take i) 0 := by
          have : ¬ ((M11.come t (w.take i) 0 : Int) < (t.length : Int)) := fun z => e (decide_eq_true z)
          omega
        rw [hstep, if_neg (by rw [List.getElem?_eq_none hge]; simp)]
        rfl
    · obtain ⟨y0, rfl, rfl⟩ := p
      refine ⟨_, rfl, _, rfl, t, rfl, ht, rfl, ?_⟩
      have hiff := M11.come_iff t w 0 (Nat.zero_le _)
      rw [List.drop_zero] at hiff
      rw [List.take_of_length_le (Nat.le_refl _)]
      have e : decide (V.int (M11.come t w 0 : Nat) = V.int (t.length : Int)) = decide (t.Sublist w) := by
        by_cases z : M11.come t w 0 = t.length
        · rw [decide_eq_true (hiff.mp z), z]
          exact decide_eq_true rfl
        · rw [decide_eq_false (fun y => z (hiff.mpr y))]
          exact decide_eq_false fun y => z (by have := V.int.inj y; omega)
      rw [e]
      exact q _ (Same.refl _)
def spIsPart : Sp := fun vs H Q _ => ∃ t w, vs = [tx t, tx w] ∧ (∀ c ∈ t, 97 ≤ c ∧ c ≤ 122) ∧ t.length ≤ 1000 ∧ (∀ c ∈ w, 97 ≤ c ∧ c ≤ 122) ∧ w.length ≤ 1000 ∧ ∀ H', Same H H' → Q (.bl (decide (t.Sublist w))) H'
theorem ok_is_part (T : All K mg) : FnOk P w K mg base CX0 3 T.f_is_part T.d_is_part ["text", "whole"] spIsPart := by
  refine T.is_part.F.ok sc_is_part (fun vs H Q E h => ?_) (fun cdv A outer s H vs Q E hr h => ?_)
  · obtain ⟨t, w, rfl, _⟩ := h
    rfl
  · obtain ⟨t, w, rfl, ht, ht2, hw, hw2, q⟩ := h
    refine ⟨_, pss_cons (ps_expr (pe_call (ok_want_texts T) hr (by rfl) T.want_texts_parts.g T.want_texts_parts.F.kp T.want_texts_parts.b .nil pass0 (pa_cons (pe_lst (pa_cons (pv 0) (pa_cons (pv 1) pa_nil))) pa_nil)))
      (pss_one (ps_ret (pe_call (ok_is_part_of T) (hr.mono (by decide)) (by rfl) T.is_part_of.g T.is_part_of.F.kp T.is_part_of.b .nil pass0 (pa_cons (pv 0) (pa_cons (pv 1) pa_nil))))), ?_⟩
    refine ⟨_, rfl, _, rfl, by show 2 ≤ sizeLine; decide, fun p np => ?_⟩
    refine ⟨p, [t, w], rfl, .inl (.inl upd_same), ?_, fun H1 s1 => ?_⟩
    · intro l hl
      simp only [List.mem_cons, List.not_mem_nil, or_false] at hl
      rcases hl with rfl | rfl
      · exact ⟨ht, ht2⟩
      · exact ⟨hw, hw2⟩
    · refine ⟨_, rfl, _, rfl, t, w, rfl, sz (by omega), sz (by omega), fun H2 s2 => ?_⟩
      exact q _ (((same_upd np).trans s1).trans s2)
def spPlaces (K : PySem.W.Frag) (C : Addr) : Sp := fun vs H Q _ => ∃ (a p : Addr) (sg : List Nat) (R : List (List Nat)) (k : List Bool), vs = [.int 6, .ref p] ∧ H p = some (.lst [.ref a]) ∧ Mach C K H a sg R k ∧ R.length ≤ 6 ∧ Q .non H
theorem ok_want_places (T : All K mg) : FnOk P w K mg base CX0 2 T.f_want_places T.d_want_places ["limit", "machines"] (spPlaces K T.C_Machine) := by
  refine T.want_places.F.ok sc_want_places (fun vs H Q E h => ?_) (fun cdv A outer s H vs Q E hr h => ?_)
  · obtain ⟨a, p, sg, R, k, rfl, _⟩ := h
    rfl
  · obtain ⟨a, p, sg, R, k, rfl, hp, hM, h1, q⟩ := h
    refine ⟨_, pss_one (ps_for PassesOwn.never rfl (pi_list (pv 1)) (pg_name (i := 2) sc_want_places.nd rfl (by first | exact Or.inl rfl | exact Or.inr rfl))
        (pss_one (ps_expr (pe_call (ok_want_few T) (hr.mono (by decide)) (by rfl) T.want_few.g T.want_few.F.kp T.want_few.b .nil pass0 (pa_cons pe_str (pa_cons (pe_callB call_len_seq (by rfl) T.b_len PySem.boot_len (pa_cons (pe_fld (pv 2) rfl) pa_nil)) (pa_cons (pv 0) pa_nil))))))), ?_⟩
    refine ⟨_, rfl, p, rfl, ⟨_, .inl (.inl hp)⟩, for_it (walk_list (xs := [.ref a])) (fun i σ H' => ∃ g, σ = [some (.int 6), some (.ref p), g] ∧ H' = H) ⟨none, rfl, rfl⟩ (fun _ _ H' _ pp => by obtain ⟨_, _, rfl⟩ := pp; exact .inl (.inl hp)) (fun i x σ H1 H2 hi pp y => ?_) (fun σ H' pp => ?_)⟩
    · obtain ⟨g, rfl, rfl⟩ := pp
      obtain ⟨rfl, y⟩ := y
      have : x = .ref a := by
        match i, y with
        | 0, y => exact (Option.some.inj y).symm
        | i + 1, y => exact absurd y (by simp)
      subst this
      obtain ⟨dx, r, qq, hat, hr1, hk1⟩ := hM.at_
      obtain ⟨ra, ys, e2, hST, hAll⟩ := dp_tuple hr1
      cases e2
      have hyl : ys.length = R.length := by rw [dpAll_len hAll, List.length_map]
      refine ⟨_, rfl, a, T.C_Machine, dx, _, _, rfl, hat, T.cl_Machine, T.n_Machine_own_rows, rfl, r, ys, rfl, .inr hST, _, rfl, _, _, _, rfl, by omega, _, rfl, rfl⟩
    · obtain ⟨g, rfl, rfl⟩ := pp
      exact q
/-- a new sum -/
def NewS (K : PySem.W.Frag) (C : Addr) (H : Hp) (Q : VK) (sg : List Nat) (kp : List M23.Pd) : Prop := ∀ H' x, Same H H' → H x = none → SumO C K H' x sg kp → Q (.ref x) H'
theorem make_s {C : Addr} {H : Hp} {sg : List Nat} {v : V} {ps : List M23.Pd} (hl : Lets sg) (hB : Bun K H v ps) (hok : ∀ p ∈ ps, PdOk sg p) (hf : ps.length ≤ 40) (hz : ∀ p ∈ ps, p.length ≤ 100) {x dx : Addr} (nx : H x = none) (ndx : H dx = none) {Qh : Hp → Prop} (q : ∀ H', Same H H' → SumO C K H' x sg (M23.kept ps) → Qh H') :
    spSumInit K C [.ref x, tx sg, v] (L2.upd (L2.upd H dx (.own x)) x (.ins C dx [])) (fun v H2 => v = .non ∧ Qh H2) E0 := by
  have sU : Same H (L2.upd (L2.upd H dx (.own x)) x (.ins C dx [])) := same_up (same_upd ndx) nx
  exact ⟨x, dx, sg, v, ps, rfl, upd_same, hl, hB.same sU, hok, hf, hz, fun H' hk' hM' => ⟨rfl, q H' (Same.made nx ndx hk') hM'⟩⟩
def spSumOf (K : PySem.W.Frag) (C : Addr) : Sp := fun vs H Q _ => ∃ (sg : List Nat) (l : Addr) (bs : List AP), vs = [tx sg, .ref l] ∧ Lets sg ∧ SqL K H l (rfs bs) ∧ Prods K H bs ∧ (∀ b ∈ bs, PdOk sg b.2 ∧ b.2.length ≤ 100) ∧ bs.length ≤ 40 ∧ NewS K C H Q sg (M23.kept (bs.map Prod.snd))
theorem ok_sum_of (T : All K mg) : FnOk P w K mg base CX0 10 T.f_sum_of T.d_sum_of ["letters", "products"] (spSumOf K T.C_Sum) := by
  refine T.sum_of.F.ok sc_sum_of (fun vs H Q E h => ?_) (fun cdv A outer s H vs Q E hr h => ?_)
  · obtain ⟨sg, l, bs, rfl, _⟩ := h
    rfl
  · obtain ⟨sg, l, bs, rfl, hl, hS, hpr, hok, hz, q⟩ := h
    refine ⟨_, pss_one (ps_ret (pe_make ⟨T.mk_Sum, T.Sum_init.m.at_, T.Sum_init.m.fn, T.kp_Sum⟩ (ok_Sum_init T) (hr.mono (by decide)) (by rfl) T.g_Sum T.Sum_init.b .nil pass0 (pa_cons (pv 0) (pa_cons (pe_callTy call_list_of (by rfl) T.b_list PyProof.Rows.boot_list (pa_cons (pv 1) pa_nil)) pa_nil)))), ?_⟩
    refine ⟨_, rfl, _, rfl, l, _, rfl, .inl hS, fun p np => ?_⟩
    have sp := same_upd (o := .lst (rfs bs)) np
    intro x dx nx ndx _
    refine make_s hl ⟨bs, sq_list (.inl (.inl upd_same)), rfl, hpr.same sp⟩ (fun p hp => ?_) (by rw [List.length_map]; exact hz) (fun p hp => ?_) nx ndx (fun H2 s2 hM => q _ _ (sp.trans s2) (sp.free nx) hM)
    · obtain ⟨b, hb, rfl⟩ := List.mem_map.mp hp
      exact (hok b hb).1
    · obtain ⟨b, hb, rfl⟩ := List.mem_map.mp hp
      exact (hok b hb).2
def spWhole (K : PySem.W.Frag) (C : Addr) : Sp := fun vs H Q _ => ∃ (sg : List Nat), vs = [tx sg] ∧ Lets sg ∧ NewS K C H Q sg [[sg ++ [42]]]
theorem kept_whole {sg : List Nat} (hl : Lets sg) : M23.kept [[sg ++ [42]]] = [[sg ++ [42]]] := by
  rw [kept_one]
  rw [M23.red_self ⟨fun x hx => by
    rw [List.mem_singleton.mp hx]
    exact .inr ⟨sg, (fun e => by have := hl.ne; rw [e] at this; cases this), hl.up, (fun h => by have := hl.az _ h; omega), rfl⟩, by simp [M23.Red]⟩]
theorem ok_Sum_whole (T : All K mg) : FnOk P w K mg base CX0 10 T.f_Sum_whole T.d_Sum_whole ["letters"] (spWhole K T.C_Sum) := by
  refine T.Sum_whole.F.ok sc_Sum_whole (fun vs H Q E h => ?_) (fun cdv A outer s H vs Q E hr h => ?_)
  · obtain ⟨sg, rfl, _⟩ := h
    rfl
  · obtain ⟨sg, rfl, hl, q⟩ := h
    obtain ⟨t1, hSTAR⟩ := T.c_STAR
    refine ⟨_, pss_cons (ps_expr (pe_call (ok_want_letters T) (hr.mono (by decide)) (by rfl) T.want_letters.g T.want_letters.F.kp T.want_letters.b .nil pass0 (pa_cons (pv 0) pa_nil)))
      (pss_one (ps_ret (pe_make ⟨T.mk_Sum, T.Sum_init.m.at_, T.Sum_init.m.fn, T.kp_Sum⟩ (ok_Sum_init T) (hr.mono (by decide)) (by rfl) T.g_Sum T.Sum_init.b .nil pass0 (pa_cons (pv 0) (pa_cons (pe_lst (pa_cons (pe_tup (pa_cons (pe_op op_addT (pv 0) (pe_glob (v := .str "*") rfl hSTAR ⟨_, rfl⟩)) pa_nil)) pa_nil)) pa_nil))))), ?_⟩
    refine ⟨_, rfl, sg, rfl, hl, fun H1 s1 => ?_⟩
    have hfew := hl.few
    refine ⟨_, rfl, _, rfl, sg, [42], rfl, rfl, by rw [sizeLine_eq, List.length_singleton]; omega, by show 1 ≤ sizeLine; decide, fun p np => ⟨by show 1 ≤ sizeLine; decide, fun l nl => ?_⟩⟩
    have s2 := same_upd (o := .tup [tx (sg ++ [42])]) np
    have s3 := same_upd (o := .lst [.ref p]) nl
    have s13 := s1.trans (s2.trans s3)
    intro x dx2 nx ndx _
    have hp : PdOk sg [sg ++ [42]] := fun y hy => by
      rw [List.mem_singleton.mp hy]
      exact .inr ⟨sg, (fun e => by have := hl.ne; rw [e] at this; cases this), hl.up, fun c hc => hc, rfl⟩
    refine make_s hl (ps := [[sg ++ [42]]]) ⟨[(p, [sg ++ [42]])], sq_list (.inl (.inl upd_same)), rfl, fun b hb => by rw [List.mem_singleton.mp hb]; exact .inl (.inl (s3 _ _ upd_same))⟩ (fun p hp' => by rw [List.mem_singleton.mp hp']; exact hp) (by show 1 ≤ 40; decide) (fun p hp => by rw [List.mem_singleton.mp hp]; show 1 ≤ 100; decide) nx ndx (fun H2 s2' hM => q _ _ (s13.trans s2') (s13.free nx) (by rw [kept_whole hl] at hM; exact hM))
end
end Lw
namespace Lw
open PySem PySem.Spec PyProof.Rows L3
open L2 hiding del del_same del_ne
/-- texts shorter than i -/
def upto (sg : List Nat) : Nat → List (List Nat)
  | 0 => []
  | i + 1 => upto sg i ++ M34.lvl sg i
theorem upto_texts (sg : List Nat) : ∀ m, upto sg (m + 1) = M34.texts sg m
  | 0 => rfl
  | m + 1 => by
    show upto sg (m + 1) ++ M34.lvl sg (m + 1) = _
    rw [upto_texts sg m]
    rfl
theorem isP_dec {t w : List Nat} : M34.isP t w = decide (t.Sublist w) := by
  by_cases h : t.Sublist w
  · rw [M34.isP_iff.mpr h, decide_eq_true h]
  · rw [M34.isP_no.mpr h, decide_eq_false h]
theorem upto_mem {sg : List Nat} {t : List Nat} : ∀ {i : Nat}, t ∈ upto sg i → t.length < i
  | 0, h => by cases h
  | i + 1, h => by
    rw [upto_texts] at h
    exact Nat.lt_succ_of_le (M34.texts_mem.mp h).1
theorem foldL_len {sg : List Nat} {R : List (List Nat)} {k : List Bool} : ∀ (ts f : List (List Nat)), (ts.foldl (M34.stepL sg R k) f).length ≤ f.length + ts.length
  | [], f => Nat.le_refl _
  | t :: ts, f => by
    rw [List.foldl_cons]
    have h1 := foldL_len (sg := sg) (R := R) (k := k) ts (M34.stepL sg R k f t)
    have h2 : (M34.stepL sg R k f t).length ≤ f.length + 1 := by
      unfold M34.stepL
      split
      · rw [List.length_append]; exact Nat.le_refl _
      · exact Nat.le_succ _
    rw [List.length_cons]
    omega
theorem upto_len {sg : List Nat} {n : Nat} (h : ∀ i, i ≤ n → sg.length ^ i ≤ 100) : ∀ i, i ≤ n + 1 → (upto sg i).length ≤ 100 * i
  | 0, _ => Nat.le_refl _
  | i + 1, hi => by
    show (upto sg i ++ M34.lvl sg i).length ≤ _
    rw [List.length_append, M34.lvl_len]
    have h1 := upto_len h i (by omega)
    have h2 := h i (by omega)
    omega
section
variable {P : Program} {w : World} {K : PySem.W.Frag} {mg : Str → Option Value} {base : Heap}
def spLeastT (K : PySem.W.Frag) (C : Addr) : Sp := fun vs H Q _ => ∃ (a : Addr) (sg : List Nat) (R : List (List Nat)) (k : List Bool), vs = [.ref a] ∧ Mach C K H a sg R k ∧ R.length ≤ 6 ∧ (∀ i, i ≤ R.length → sg.length ^ i ≤ 100) ∧
  ∀ H' p, Same H H' → H p = none → H' p = some (.lst ((M34.leastL sg R k).map tx)) → Q (.ref p) H'
theorem ok_least_taken (T : All K mg) : FnOk P w K mg base CX0 3 T.f_least_taken T.d_least_taken ["machine"] (spLeastT K T.C_Machine) := by
  refine T.least_taken.F.ok sc_least_taken (fun vs H Q E h => ?_) (fun cdv A outer s H vs Q E hr h => ?_)
  · obtain ⟨a, sg, R, k, rfl, _⟩ := h
    rfl
  · obtain ⟨a, sg, R, k, rfl, hM, h6, hp, q⟩ := h
    refine ⟨_, pss_cons (ps_par rfl sc_least_taken.nd (i := 1) (j := 2) rfl rfl (by decide) rfl rfl (pa_cons (pe_lst pa_nil) (pa_cons (pe_lst (pa_cons pe_str pa_nil)) pa_nil)) (by rfl))
      (pss_cons (ps_for PassesOwn.never rfl (pi_range1 rfl T.b_range (pa_cons (pe_callB call_len_seq (by rfl) T.b_len PySem.boot_len (pa_cons (pe_fld (pv 0) rfl) pa_nil)) pa_nil)) (pg_name (i := 3) sc_least_taken.nd rfl (by first | exact Or.inl rfl | exact Or.inr rfl))
        (pss_cons (ps_for PassesOwn.never rfl (pi_list (pv 2)) (pg_name (i := 4) sc_least_taken.nd rfl (by first | exact Or.inl rfl | exact Or.inr rfl))
        (pss_one (ps_if (PW.pt (pw_and (pt_val (pe_call (ok_is_taken T) (hr.mono (by decide)) (by rfl) T.is_taken.g T.is_taken.F.kp T.is_taken.b .nil pass0 (pa_cons (pv 0) (pa_cons (pv 4) pa_nil)))) (pw_and1 (pt_not (pt_val (pe_callB (cr_any rfl) (by rfl) T.b_any PyProof.Rows.boot_any (pa_cons (pe_lc (own := [("one", 5)]) (g := gName 5) (tt := tYes) rfl sc_least_taken.nd (pi_list (pv 1))
          (blkOk_by (own := [("one", 5)]) (N := ["machine", "found", "rows", "length", "text", "one", "longer", "letter"]) (sc := defScope s_least_taken) (by decide +kernel))
          (fun _ _ _ _ _ => pg_name (i := 5) sc_least_taken.nd rfl (by first | exact Or.inl rfl | exact Or.inr rfl)) (fun _ _ _ _ _ => pts_nil)
          (fun _ _ _ _ _ => (pe_call (ok_is_part_of T) (hr.mono (by decide)) (by rfl) T.is_part_of.g T.is_part_of.F.kp T.is_part_of.b .nil pass0 (pa_cons (pv 5) (pa_cons (pv 4) pa_nil))))) pa_nil))))))) (pss_one (ps_expr (pe_bm PySem.F.plainAttrs_list PySem.F.slot_list_append PySem.F.type_list_append mt_append (pv 1) (pa_cons (pv 4) pa_nil)))) pss_nil)))
      (pss_cons (ps_set (i := 6) sc_least_taken.nd rfl (by first | exact Or.inl rfl | exact Or.inr rfl) (pe_lst pa_nil))
      (pss_cons (ps_for PassesOwn.never rfl (pi_list (pv 2)) (pg_name (i := 4) sc_least_taken.nd rfl (by first | exact Or.inl rfl | exact Or.inr rfl))
        (pss_one (ps_expr (pe_bm PySem.F.plainAttrs_list PySem.F.slot_list_extend PySem.F.type_list_extend mt_extend (pv 6) (pa_cons (pe_lc (own := [("letter", 7)]) (g := gName 7) (tt := tYes) rfl sc_least_taken.nd (pi_str (pe_fld (pv 0) rfl))
          (blkOk_by (own := [("letter", 7)]) (N := ["machine", "found", "rows", "length", "text", "one", "longer", "letter"]) (sc := defScope s_least_taken) (by decide +kernel))
          (fun _ _ _ _ _ => pg_name (i := 7) sc_least_taken.nd rfl (by first | exact Or.inl rfl | exact Or.inr rfl)) (fun _ _ _ _ _ => pts_nil)
          (fun _ _ _ _ _ => (pe_op op_addT (pv 4) (pv 7)))) pa_nil)))))
      (pss_one (ps_set (i := 2) sc_least_taken.nd rfl (by first | exact Or.inl rfl | exact Or.inr rfl) (pv 6)))))))
      (pss_one (ps_ret (pv 1)))), ?_⟩
    obtain ⟨dx, r, qq, hat, hr1, hk1⟩ := hM.at_
    obtain ⟨ra, ys, e2, hST, hAll⟩ := dp_tuple hr1
    cases e2
    have hyl : ys.length = R.length := by rw [dpAll_len hAll, List.length_map]
    have hne := hM.good.ne
    have hlet := hM.lets
    have hfew := hlet.few
    refine ⟨by show 0 ≤ sizeLine; decide, fun F nF => ⟨by show 1 ≤ sizeLine; decide, fun L nL => ⟨_, _, rfl, ?_⟩⟩⟩
    have nFL : F ≠ L := fun e => by rw [← e, upd_same] at nL; cases nL
    have nL0 : H L = none := by rw [upd_ne nFL.symm] at nL; exact nL
    have s1 : Same H (upd (upd H F (.lst [])) L (.lst [.str ""])) := same_up (same_upd nF) nL0
    refine ⟨_, rfl, a, T.C_Machine, dx, _, _, rfl, s1 _ _ hat, T.cl_Machine, T.n_Machine_own_rows, rfl, r, ys, rfl, .inr (sqT_same hST s1), _, rfl, by omega, by omega, ?_⟩
    rw [show ((ys.length : Int)).toNat = R.length by omega]
    let fs : List (List Nat) → List (List Nat) := fun ts => ts.foldl (M34.stepL sg R k) []
    refine for_it walk_range (fun i σ H' => ∃ (L : Addr) (x3 x4 x6 : Option V), σ = [some (.ref a), some (.ref F), some (.ref L), x3, x4, none, x6, none] ∧ Same H H' ∧ H' F = some (.lst ((fs (upto sg i)).map tx)) ∧ H L = none ∧ H' L = some (.lst ((M34.lvl sg i).map tx)) ∧ F ≠ L)
      ⟨L, none, none, none, rfl, s1, by rw [upd_ne nFL, upd_same]; rfl, nL0, upd_same, nFL⟩ (fun _ _ _ _ _ => trivial) (fun i x σ H1 H2 hi p y => ?_) (fun σ H1 p => ?_)
    · obtain ⟨L, x3, x4, x6, rfl, sm, hF, nL, hL, nFL⟩ := p
      obtain ⟨rfl, rfl⟩ := y
      have hul := upto_len hp i (by omega)
      have hlv : (M34.lvl sg i).length ≤ 100 := by rw [M34.lvl_len]; exact hp i (by omega)
      have hlv1 : (M34.lvl sg (i + 1)).length ≤ 100 := by rw [M34.lvl_len]; exact hp (i + 1) (by omega)
      dsimp only [gName]
      refine seq_to ?_
      refine ⟨_, rfl, L, rfl, ⟨_, .inl (.inl hL)⟩, for_it (walk_list (xs := (M34.lvl sg i).map tx)) (fun j σ H' => ∃ (x4 : Option V), σ = [some (.ref a), some (.ref F), some (.ref L), some (.int (0 + (i : Int))), x4, none, x6, none] ∧ Same H H' ∧ H' F = some (.lst ((fs (upto sg i ++ (M34.lvl sg i).take j)).map tx)) ∧ H' L = some (.lst ((M34.lvl sg i).map tx)))
        ⟨x4, rfl, sm, by rw [List.take_zero, List.append_nil]; exact hF, hL⟩ (fun j σ H' _ p => by obtain ⟨_, _, _, _, h⟩ := p; exact .inl (.inl h)) (fun j x σ H3 H4 hj p y => ?_) (fun σ H3 p => ?_)⟩
      · obtain ⟨x4, rfl, sm3, hF3, hL3⟩ := p
        obtain ⟨rfl, y⟩ := y
        rw [List.getElem?_map] at y
        obtain ⟨t, ht, rfl⟩ := Option.map_eq_some_iff.mp y
        obtain ⟨ht1, ht2⟩ := M34.lvl_mem.mp (List.mem_of_getElem? ht)
        rw [List.length_map] at hj
        have hfs : fs (upto sg i ++ (M34.lvl sg i).take (j + 1)) = M34.stepL sg R k (fs (upto sg i ++ (M34.lvl sg i).take j)) t := by
          show (upto sg i ++ (M34.lvl sg i).take (j + 1)).foldl _ _ = _
          rw [List.take_add_one, ht, ← List.append_assoc, List.foldl_append]
          rfl
        have hz0 : (fs (upto sg i ++ (M34.lvl sg i).take j)).length ≤ 100 * i + 100 := by
          have := foldL_len (sg := sg) (R := R) (k := k) (upto sg i ++ (M34.lvl sg i).take j) []
          rw [List.length_append, List.length_take, List.length_nil] at this
          refine Nat.le_trans this ?_
          omega
        have ho0 : ∀ o ∈ fs (upto sg i ++ (M34.lvl sg i).take j), o.length ≤ i := fun o ho => by
          rcases M34.foldL_mem ho with ho | ⟨ho, _⟩
          · cases ho
          rcases List.mem_append.mp ho with ho | ho
          · exact Nat.le_of_lt (upto_mem ho)
          · exact Nat.le_of_eq (M34.lvl_mem.mp (List.mem_of_mem_take ho)).1
        rw [hfs]
        generalize fs (upto sg i ++ (M34.lvl sg i).take j) = f0 at *
        refine ⟨_, rfl, _, rfl, a, t, sg, R, k, rfl, hM.same sm3, ht2, _, rfl, ?_⟩
        have etk : M34.tak sg R k t = M14.kAt k (M14.led sg R 0 t) := rfl
        cases htk : M14.kAt k (M14.led sg R 0 t) with
        | false =>
          refine iteF (iteF ?_)
          refine ⟨_, rfl, sm3, ?_, hL3⟩
          rw [hF3]
          unfold M34.stepL
          rw [etk, htk]
          rfl
        | true =>
          refine iteT ?_
          refine ⟨_, rfl, F, rfl, ⟨_, .inl (.inl hF3)⟩, fun D nD => ?_⟩
          refine lc_gen (walk_list (xs := f0.map tx)) (Same H4) (fun n acc => acc = (f0.take n).map fun o => V.bl (decide (o.Sublist t))) (by rw [List.length_map]; exact sz (by omega)) (fun n acc e => by rw [e, List.length_map, List.length_take]; omega) rfl (same_upd nD) (fun _ _ h => same_up h nD) (fun _ h => .inl (.inl (h _ _ hF3))) (fun n x H5 H6 acc C N hn rr hD ha y c nn => ?_) (fun H5 bs rr hD ha => ?_)
          · obtain ⟨rfl, y⟩ := y
            rw [List.getElem?_map] at y
            obtain ⟨o, ho, rfl⟩ := Option.map_eq_some_iff.mp y
            have hol := ho0 o (List.mem_of_getElem? ho)
            refine ⟨rfl, yes_te ⟨_, rfl, _, rfl, o, t, rfl, sz (by omega), sz (by omega), fun H7 s7 => ?_⟩⟩
            refine c _ _ (rr.trans s7) (s7 _ _ hD) ?_
            rw [ha, List.take_add_one, ho, List.map_append]
            rfl
          · subst ha
            rw [List.length_map, List.take_length] at hD
            have hF5 := rr _ _ hF3
            refine ⟨D, f0.map fun o => decide (o.Sublist t), rfl, .inl (.inl (by rw [hD, List.map_map]; rfl)), _, rfl, ?_⟩
            have ean : ((f0.map fun o => decide (o.Sublist t)).any id) = f0.any fun o => M34.isP o t := by
              rw [List.any_map]
              congr 1
              funext o
              exact isP_dec.symm
            rw [ean]
            cases han : f0.any fun o => M34.isP o t with
            | true =>
              refine iteF ?_
              refine ⟨_, rfl, sm3.trans rr, ?_, rr _ _ hL3⟩
              rw [hF5]
              unfold M34.stepL
              rw [etk, htk, han]
              rfl
            | false =>
              refine iteT ?_
              refine ⟨_, rfl, .inl ⟨rfl, _, .inl (.inl hF5)⟩, _, rfl, F, _, _, rfl, rfl, hF5, by rw [List.length_map, sizeLine_eq]; omega, ?_⟩
              refine ⟨_, rfl, same_up (sm3.trans rr) nF, ?_, by rw [upd_ne nFL.symm]; exact rr _ _ hL3⟩
              rw [upd_same]
              unfold M34.stepL
              rw [etk, htk, han, show (if (true && !false) = true then f0 ++ [t] else f0) = f0 ++ [t] from rfl, List.map_append]
              rfl
      · obtain ⟨x4, rfl, sm3, hF3, hL3⟩ := p
        rw [List.length_map, List.take_length] at hF3
        dsimp only
        refine seq_to ?_
        refine ⟨by show 0 ≤ sizeLine; decide, fun W nW => ?_⟩
        have nW0 := sm3.free nW
        have nLW : L ≠ W := ne_of_none hL3 nW
        have nFW : F ≠ W := ne_of_none hF3 nW
        dsimp only [gName]
        refine seq_to ?_
        refine ⟨_, rfl, L, rfl, ⟨_, .inl (.inl (by rw [upd_ne nLW]; exact hL3))⟩, for_it (walk_list (xs := (M34.lvl sg i).map tx)) (fun j σ H' => ∃ (x4 : Option V), σ = [some (.ref a), some (.ref F), some (.ref L), some (.int (0 + (i : Int))), x4, none, some (.ref W), none] ∧ Same H H' ∧ H' F = some (.lst ((fs (upto sg i ++ M34.lvl sg i)).map tx)) ∧ H' L = some (.lst ((M34.lvl sg i).map tx)) ∧ H' W = some (.lst ((((M34.lvl sg i).take j).flatMap fun t => sg.map fun c => t ++ [c]).map tx)))
          ⟨x4, rfl, same_up sm3 nW0, by rw [upd_ne nFW]; exact hF3, by rw [upd_ne nLW]; exact hL3, upd_same⟩ (fun j σ H' _ p => by obtain ⟨_, _, _, _, h, _⟩ := p; exact .inl (.inl h)) (fun j x σ H4 H5 hj p y => ?_) (fun σ H4 p => ?_)⟩
        · obtain ⟨x4, rfl, sm4, hF4, hL4, hW4⟩ := p
          obtain ⟨rfl, y⟩ := y
          rw [List.getElem?_map] at y
          obtain ⟨t, ht, rfl⟩ := Option.map_eq_some_iff.mp y
          obtain ⟨ht1, ht2⟩ := M34.lvl_mem.mp (List.mem_of_getElem? ht)
          rw [List.length_map] at hj
          refine ⟨_, rfl, .inl ⟨rfl, _, .inl (.inl hW4)⟩, _, rfl, a, T.C_Machine, dx, _, _, rfl, sm4 _ _ hat, T.cl_Machine, T.n_Machine_own_letters, rfl, tS sg, rfl, fun D nD => ?_⟩
          have nD0 := sm4.free nD
          refine lc_gen walk_tx (Same H5) (fun b acc => acc = ((sg.take b).map fun c => t ++ [c]).map tx) (sz (by omega)) (fun b acc e => by rw [e, List.length_map, List.length_map, List.length_take]; omega) rfl (same_upd nD) (fun _ _ h => same_up h nD) (fun _ _ => trivial) (fun b x H6 H7 acc C N hb rr hD hacc y c nn => ?_) (fun H6 ys rr hD hacc => ?_)
          · obtain ⟨rfl, ch, hch, rfl⟩ := y
            refine ⟨rfl, yes_te ⟨_, rfl, _, rfl, t, [ch], rfl, rfl, sz (by simp; omega), ?_⟩⟩
            refine c _ _ rr hD ?_
            rw [hacc, List.take_add_one, hch, List.map_append, List.map_append]
            rfl
          · subst hacc
            rw [List.take_length] at hD
            have hW6 := rr _ _ hW4
            have nWD : W ≠ D := ne_of_none hW4 nD
            have hlen : ((((M34.lvl sg i).take j).flatMap fun t => sg.map fun c => t ++ [c])).length = ((M34.lvl sg i).take j).length * sg.length := M34.flat_len _ _ _ (fun x _ => by rw [List.length_map])
            have hlen2 : ((M34.lvl sg i).take j).length * sg.length ≤ 100 * 3 := Nat.mul_le_mul (by rw [List.length_take]; omega) hfew
            refine ⟨W, D, _, _, rfl, rfl, hW6, hD, by rw [List.length_map, List.length_map, List.length_map, sizeLine_eq]; omega, ?_⟩
            refine ⟨_, rfl, same_up (sm4.trans rr) nW0, by rw [upd_ne nFW]; exact rr _ _ hF4, by rw [upd_ne nLW]; exact rr _ _ hL4, ?_⟩
            rw [upd_same, ← List.map_append, List.take_add_one, ht, List.flatMap_append]
            rw [show (some t).toList = [t] from rfl, List.flatMap_cons, List.flatMap_nil, List.append_nil]
        · obtain ⟨x4, rfl, sm4, hF4, hL4, hW4⟩ := p
          rw [List.length_map, List.take_length] at hW4
          refine ⟨_, rfl, ?_⟩
          exact ⟨W, _, _, _, rfl, sm4, hF4, nW0, hW4, nFW⟩
    · obtain ⟨L, x3, x4, x6, rfl, sm, hF, nL, hL, nFL⟩ := p
      have e : upto sg R.length = M34.texts sg (R.length - 1) := by
        rw [← upto_texts, Nat.sub_add_cancel hne]
      exact ⟨_, rfl, q _ F sm nF (by rw [hF, e]; rfl)⟩
end
end Lw
namespace L3
open PySem PySem.Spec PyProof.Rows L2
section
variable {X : Cx}
theorem call_tupleS (hc : X.calm = true) : CallR X (.type "tuple") (fun xs H Q => ∃ l, xs = [tx l] ∧ l.length ≤ sizeLine ∧ ∀ p, H p = none → Q (.ref p) (upd H p (.tup (l.map fun c => tx [c])))) := by
  intro pins s σ H xs us Q I r h
  obtain ⟨l, rfl, hz, q⟩ := h
  obtain ⟨u, rfl, rx⟩ := vals1 r
  obtain ⟨t, rfl⟩ := rx
  refine call_tuple_str (I.ok.hd hc) (tS l) t (fun h' tk acc hk hacc => ?_) (by show l.toArray.size ≤ _; simpa using hz)
  have hl : acc.size = l.length := by rw [hacc.1]; simp [tS]
  have hv : Vals (l.map fun c => tx [c]) acc.toList := vals_of_at (by rw [List.length_map, len_toL, hl]) fun j x w h1 h2 => by
    obtain ⟨c, t, e1, e2⟩ := hacc.2 j w (by rw [← Array.getElem?_toList]; exact h2)
    have e3 : l[j]? = some c := by simpa [tS] using e1
    rw [List.getElem?_map, e3] at h1
    cases h1
    subst e2
    exact ⟨t, rfl⟩
  have I1 : Inv X pins σ H { s with heap := h', toks := tk } := I.kept (t' := tk) hk
  have I2 : Inv X pins σ (upd H h'.objs.size (.tup (l.map fun c => tx [c]))) { s with heap := h'.push { cls := .type "tuple", data := .seq acc }, toks := tk } :=
    I1.laid (t' := tk) (fun b o e => Heap.get?_push_of_some _ e) (Nat.le_refl _) (show ObjOk X.prog X.w _ _ _ (.tup (l.map fun c => tx [c])) from ⟨by rw [List.length_map]; exact hz, acc.toList, hv, by rw [Array.toArray_toList]; exact IsTup.new _ _⟩)
  exact ⟨.ref h'.objs.size, _, I2, rfl, q _ (I1.hok.fresh (Nat.le_refl _))⟩
end
end L3
namespace Lw
open PySem PySem.Spec PyProof.Rows L3
open L2 hiding del del_same del_ne
/-- few places, few texts -/
structure FewM (sg : List Nat) (n : Nat) : Prop where
  few : n ≤ 6
  pw : ∀ i, i ≤ n → sg.length ^ i ≤ 100
  tx : (upto sg n).length ≤ 200
section
variable {P : Program} {w : World} {K : PySem.W.Frag} {mg : Str → Option Value} {base : Heap}
def spUp (K : PySem.W.Frag) (C : Addr) : Sp := fun vs H Q _ => ∃ (a : Addr) (sg : List Nat) (R : List (List Nat)) (k : List Bool), vs = [.ref a] ∧ Mach C K H a sg R k ∧ FewM sg R.length ∧
  ∀ H' p, Same H H' → H p = none → H' p = some (.lst ((M34.leastL sg R k).map tx)) → Q (.ref p) H'
theorem ok_up (T : All K mg) : FnOk P w K mg base CX0 5 T.f_up T.d_up ["machine"] (spUp K T.C_Machine) := by
  refine T.up.F.ok sc_up (fun vs H Q E h => ?_) (fun cdv A outer s H vs Q E hr h => ?_)
  · obtain ⟨a, sg, R, k, rfl, _⟩ := h
    rfl
  · obtain ⟨a, sg, R, k, rfl, hM, hf, q⟩ := h
    obtain ⟨t1, hMOST_PLACES⟩ := T.c_MOST_PLACES
    obtain ⟨t2, hMOST_TEXTS⟩ := T.c_MOST_TEXTS
    refine ⟨_, pss_cons (ps_expr (pe_call (ok_want_places T) (hr.mono (by decide)) (by rfl) T.want_places.g T.want_places.F.kp T.want_places.b .nil pass0 (pa_cons (pe_glob (v := .int 6) rfl hMOST_PLACES ⟨_, rfl⟩) (pa_cons (pe_lst (pa_cons (pv 0) pa_nil)) pa_nil))))
      (pss_cons (ps_set (i := 1) sc_up.nd rfl (by first | exact Or.inl rfl | exact Or.inr rfl) (pe_call (ok_least_taken T) (hr.mono (by decide)) (by rfl) T.least_taken.g T.least_taken.F.kp T.least_taken.b .nil pass0 (pa_cons (pv 0) pa_nil)))
      (pss_cons (ps_expr (pe_call (ok_want_few T) (hr.mono (by decide)) (by rfl) T.want_few.g T.want_few.F.kp T.want_few.b .nil pass0 (pa_cons pe_str (pa_cons (pe_callB call_len_seq (by rfl) T.b_len PySem.boot_len (pa_cons (pv 1) pa_nil)) (pa_cons (pe_glob (v := .int 200) rfl hMOST_TEXTS ⟨_, rfl⟩) pa_nil)))))
      (pss_one (ps_ret (pv 1))))), ?_⟩
    refine ⟨_, rfl, by show 1 ≤ sizeLine; decide, fun l nl => ?_⟩
    have s1 := same_upd (o := .lst [.ref a]) nl
    refine ⟨a, l, sg, R, k, rfl, upd_same, hM.same s1, hf.few, ?_⟩
    refine ⟨_, rfl, a, sg, R, k, rfl, hM.same s1, hf.few, hf.pw, fun H2 p s2 np hp => ?_⟩
    have hz : (M34.leastL sg R k).length ≤ 200 := by
      have h1 := foldL_len (sg := sg) (R := R) (k := k) (M34.texts sg (R.length - 1)) []
      rw [← upto_texts, Nat.sub_add_cancel hM.good.ne, List.length_nil] at h1
      have h2 := hf.tx
      unfold M34.leastL
      rw [← upto_texts, Nat.sub_add_cancel hM.good.ne]
      omega
    refine ⟨_, rfl, p, _, rfl, .inl (.inl (.inl hp)), ?_⟩
    refine ⟨_, _, _, rfl, by rw [List.length_map]; omega, ?_⟩
    exact ⟨_, rfl, q _ p (s1.trans s2) (s1.free np) hp⟩
def spSure (K : PySem.W.Frag) (C CS : Addr) : Sp := fun vs H Q _ => ∃ (a : Addr) (sg : List Nat) (R : List (List Nat)) (k : List Bool), vs = [.ref a] ∧ Mach C K H a sg R k ∧ FewM sg R.length ∧
  NewS K CS H Q sg (M34.sureK sg (M34.leastL sg R k))
theorem ok_sure_parts (T : All K mg) : FnOk P w K mg base CX0 12 T.f_sure_parts T.d_sure_parts ["machine"] (spSure K T.C_Machine T.C_Sum) := by
  refine T.sure_parts.F.ok sc_sure_parts (fun vs H Q E h => ?_) (fun cdv A outer s H vs Q E hr h => ?_)
  · obtain ⟨a, sg, R, k, rfl, _⟩ := h
    rfl
  · obtain ⟨a, sg, R, k, rfl, hM, hf, q⟩ := h
    obtain ⟨t1, hMOST_PLACES⟩ := T.c_MOST_PLACES
    refine ⟨_, pss_cons (ps_expr (pe_call (ok_want_places T) (hr.mono (by decide)) (by rfl) T.want_places.g T.want_places.F.kp T.want_places.b .nil pass0 (pa_cons (pe_glob (v := .int 6) rfl hMOST_PLACES ⟨_, rfl⟩) (pa_cons (pe_lst (pa_cons (pv 0) pa_nil)) pa_nil))))
      (pss_cons (ps_set (i := 1) sc_sure_parts.nd rfl (by first | exact Or.inl rfl | exact Or.inr rfl) (pe_call (ok_least_taken T) (hr.mono (by decide)) (by rfl) T.least_taken.g T.least_taken.F.kp T.least_taken.b .nil pass0 (pa_cons (pv 0) pa_nil)))
      (pss_cons (ps_if (pt_cmpR (op_eqD (u64 hr)) (pv 1) (pe_lst pa_nil) (nomark _)) (pss_one (ps_ret (pe_smeth (pe_glob (v := .ref T.C_Sum) rfl T.g_Sum rfl) T.cr_Sum T.Sum_whole.s (ok_Sum_whole T) (hr.mono (by decide)) T.Sum_whole.b pass0 (pa_cons (pe_fld (pv 0) rfl) pa_nil)))) pss_nil)
      (pss_cons (ps_set (i := 2) sc_sure_parts.nd rfl (by first | exact Or.inl rfl | exact Or.inr rfl) (pe_lst (pa_cons pe_str pa_nil)))
      (pss_cons (ps_for PassesOwn.never rfl (pi_str (pe_ix ix_list (pv 1) pe_int (fun _ _ => rfl))) (pg_name (i := 3) sc_sure_parts.nd rfl (by first | exact Or.inl rfl | exact Or.inr rfl))
        (pss_one (ps_expr (pe_bm PySem.F.plainAttrs_list PySem.F.slot_list_extend PySem.F.type_list_extend mt_extend (pv 2) (pa_cons (pe_lc (own := [("text", 4)]) (g := gName 4) (tt := tYes) rfl sc_sure_parts.nd (pi_list (pe_callTy call_list_of (by rfl) T.b_list PyProof.Rows.boot_list (pa_cons (pv 2) pa_nil)))
          (blkOk_by (own := [("text", 4)]) (N := ["machine", "least", "some", "letter", "text", "sure", "one"]) (sc := defScope s_sure_parts) (by decide +kernel))
          (fun _ _ _ _ _ => pg_name (i := 4) sc_sure_parts.nd rfl (by first | exact Or.inl rfl | exact Or.inr rfl)) (fun _ _ _ _ _ => pts_nil)
          (fun _ _ _ _ _ => (pe_op op_addT (pv 4) (pv 3)))) pa_nil)))))
      (pss_cons (ps_setLc (i := 5) (own := [("text", 4)]) (g := gName 4) (by rfl) sc_sure_parts.nd rfl rfl (sw_true rfl rfl rfl (by decide +kernel)) (pi_list (pv 2))
          (blkOk_by (own := [("text", 4)]) (N := ["machine", "least", "some", "letter", "text", "sure", "one"]) (sc := defScope s_sure_parts) (by decide +kernel))
          (fun _ _ _ _ _ => pg_name (i := 4) sc_sure_parts.nd rfl (by first | exact Or.inl rfl | exact Or.inr rfl)) (fun _ _ _ _ _ => (pts_one (pt_val (pe_callB (cr_allK (K := K) rfl rfl) (by rfl) T.b_all PyProof.Rows.boot_all (pa_cons (pe_lc (own := [("one", 6)]) (g := gName 6) (tt := tYes) rfl sc_sure_parts.nd (pi_listK (K := K) rfl (pv 1))
          (blkOk_by (own := [("one", 6)]) (N := ["machine", "least", "some", "letter", "text", "sure", "one"]) (by first | kernel_rfl | rfl))
          (fun _ _ _ _ _ => pg_name (i := 6) sc_sure_parts.nd rfl (by first | exact Or.inl rfl | exact Or.inr rfl)) (fun _ _ _ _ _ => pts_nil)
          (fun _ _ _ _ _ => (pe_call (ok_is_part_of T) (hr.mono (by decide)) (by rfl) T.is_part_of.g T.is_part_of.F.kp T.is_part_of.b .nil pass0 (pa_cons (pv 4) (pa_cons (pv 6) pa_nil))))) pa_nil)))))
          (fun _ _ _ _ _ => (pe_callTy (call_tupleS rfl) (by rfl) T.b_tuple (show bootBuiltins "tuple" = some (.type "tuple") by decide +kernel) (pa_cons (pv 4) pa_nil))))
      (pss_one (ps_ret (pe_call (ok_sum_of T) (hr.mono (by decide)) (by rfl) T.sum_of.g T.sum_of.F.kp T.sum_of.b .nil pass0 (pa_cons (pe_fld (pv 0) rfl) (pa_cons (pv 5) pa_nil)))))))))), ?_⟩
    have hlet := hM.lets
    have hfew := hlet.few
    refine ⟨_, rfl, by show 1 ≤ sizeLine; decide, fun l nl => ?_⟩
    have s1 := same_upd (o := .lst [.ref a]) nl
    refine ⟨a, l, sg, R, k, rfl, upd_same, hM.same s1, hf.few, ?_⟩
    refine ⟨_, rfl, a, sg, R, k, rfl, hM.same s1, hf.few, hf.pw, fun H2 p s2 np hp => ?_⟩
    have s12 := s1.trans s2
    have hM2 := hM.same s12
    obtain ⟨dx, r, qq, hat, _⟩ := id hM2.at_
    refine ⟨_, rfl, by show 0 ≤ sizeLine; decide, fun e ne => ?_⟩
    have s3 := same_upd (o := .lst []) ne
    have hp3 := s3 _ _ hp
    have he3 := upd_same (H := H2) (a := e) (o := .lst [])
    generalize upd H2 e (.lst []) = H3 at *
    have s13 := s12.trans s3
    have hL : ∀ o ∈ M34.leastL sg R k, o.length ≤ 5 ∧ ∀ c ∈ o, c ∈ sg := fun o ho => by
      obtain ⟨h1, h2, _⟩ := M34.least_mem ho
      have := hf.few
      exact ⟨by omega, h2⟩
    have hz : (M34.leastL sg R k).length ≤ 200 := by
      have h1 := foldL_len (sg := sg) (R := R) (k := k) (M34.texts sg (R.length - 1)) []
      rw [← upto_texts, Nat.sub_add_cancel hM.good.ne, List.length_nil] at h1
      have h2 := hf.tx
      unfold M34.leastL
      rw [← upto_texts, Nat.sub_add_cancel hM.good.ne]
      omega
    generalize M34.leastL sg R k = LL at *
    refine ⟨.list (dTx LL), .list [], .lst (xs := LL.map tx) (.inl (.inl hp3)) (dp_txs _), .lst (.inl (.inl he3)) .nil, (wt_txs (n := 200) (fun y hy => ⟨fun c hc => by have := hlet.az c ((hL y hy).2 c hc); omega, by have := (hL y hy).1; omega⟩) hz).shaped (by decide), rfl, ?_⟩
    rw [eq_nil]
    cases LL with
    | nil =>
      refine ⟨_, rfl, ite_t rfl ?_⟩
      refine ⟨rfl, _, rfl, a, T.C_Machine, dx, _, _, rfl, s3 _ _ hat, T.cl_Machine, T.n_Machine_own_letters, rfl, sg, rfl, hlet, fun H' x s' nx hO => ?_⟩
      refine q H' x (s13.trans s') (s13.free nx) ?_
      show SumO _ K H' x sg (M23.kept [[sg ++ [42]]])
      rw [kept_whole hlet]
      exact hO
    | cons l0 LL =>
      refine ⟨_, rfl, ite_f rfl ?_⟩
      have h0 := hL l0 List.mem_cons_self
      have hp2 : ∀ i, (M34.subs (l0.take i)).length ≤ 32 := fun i => by
        rw [M34.subs_len, List.length_take]
        have : 2 ^ min i l0.length ≤ 2 ^ 5 := Nat.pow_le_pow_right (by decide) (by omega)
        exact this
      dsimp only [tNext]
      refine seq_to ?_
      refine ⟨by show 1 ≤ sizeLine; decide, fun S nS => ?_⟩
      have s4 := same_upd (o := .lst [.str ""]) nS
      have hp4 := s4 _ _ hp3
      have hS4 : upd H3 S (.lst [.str ""]) S = some (.lst ((M34.subs (l0.take 0)).map tx)) := upd_same
      generalize upd H3 S (.lst [.str ""]) = H4 at *
      dsimp only [gName]
      refine seq_to ?_
      refine ⟨_, rfl, p, _, 0, tx l0, rfl, rfl, .inl (.inl hp4), (by show atI _ ((0 : Nat) : Int) = _; exact atI_nat rfl), tS l0, rfl, for_it walk_tx (fun i σ H' => ∃ x3, σ = [some (.ref a), some (.ref p), some (.ref S), x3, none, none, none] ∧ Same H3 H' ∧ H' S = some (.lst ((M34.subs (l0.take i)).map tx))) ⟨none, rfl, s4, hS4⟩ (fun _ _ _ _ _ => trivial) (fun i x σ H5 H6 hi pp y => ?_) (fun σ H5 pp => ?_)⟩
      · obtain ⟨x3, rfl, s5, hS5⟩ := pp
        obtain ⟨rfl, ch, hch, rfl⟩ := y
        have hz5 := hp2 i
        have es : M34.subs (l0.take (i + 1)) = M34.subs (l0.take i) ++ (M34.subs (l0.take i)).map fun t => t ++ [ch] := by
          rw [List.take_add_one, hch]
          exact M34.subs_snoc _ _
        have ht5 : ∀ t ∈ M34.subs (l0.take i), t.length ≤ 5 := fun t ht => by
          have := ((M34.subs_mem _).mp ht).length_le
          rw [List.length_take] at this
          omega
        rw [es]
        generalize M34.subs (l0.take i) = U at *
        refine ⟨_, rfl, .inl ⟨rfl, _, .inl (.inl hS5)⟩, _, rfl, S, _, rfl, .inl (.inl (.inl hS5)), fun L nL => ⟨L, rfl, ⟨_, .inl (.inl upd_same)⟩, fun D nD => ?_⟩⟩
        have sL := same_upd (o := .lst (U.map tx)) nL
        have hL' := upd_same (H := H6) (a := L) (o := .lst (U.map tx))
        generalize upd H6 L (.lst (U.map tx)) = H7 at *
        refine lc_gen (walk_list (xs := U.map tx)) (Same H7) (fun b acc => acc = ((U.take b).map fun t => t ++ [ch]).map tx) (by rw [List.length_map]; exact sz (by omega)) (fun b acc e => by rw [e, List.length_map, List.length_map, List.length_take]; omega) rfl (same_upd nD) (fun _ _ h => same_up h nD) (fun _ h => .inl (.inl (h _ _ hL'))) (fun b x H8 H9 acc C N hb rr hD hacc y c nn => ?_) (fun H8 ys rr hD hacc => ?_)
        · obtain ⟨rfl, y⟩ := y
          rw [List.getElem?_map] at y
          obtain ⟨t, ht, rfl⟩ := Option.map_eq_some_iff.mp y
          have htl := ht5 t (List.mem_of_getElem? ht)
          refine ⟨rfl, yes_te ⟨_, rfl, _, rfl, t, [ch], rfl, rfl, sz (by simp; omega), ?_⟩⟩
          refine c _ _ rr hD ?_
          rw [hacc, List.take_add_one, ht, List.map_append, List.map_append]
          rfl
        · subst hacc
          rw [List.length_map, List.take_length] at hD
          have hS8 := rr _ _ (sL _ _ hS5)
          refine ⟨S, D, _, _, rfl, rfl, hS8, hD, by rw [List.length_map, List.length_map, List.length_map, sizeLine_eq]; omega, ?_⟩
          refine ⟨_, rfl, same_up (s5.trans (sL.trans rr)) nS, ?_⟩
          rw [upd_same, List.map_append]
      · obtain ⟨x3, rfl, s5, hS5⟩ := pp
        rw [List.take_length] at hS5
        have hzU := hp2 l0.length
        rw [List.take_length] at hzU
        have hp5 := s5 _ _ hp3
        have hall : ∀ t : List Nat, (((l0 :: LL).map fun o => decide (t.Sublist o)).all id) = (l0 :: LL).all fun o => M34.isP t o := fun t => by
          rw [List.all_map]
          congr 1
          funext o
          exact isP_dec.symm
        dsimp only
        refine seq_to ?_
        refine ⟨_, rfl, S, rfl, ⟨_, .inl (.inl hS5)⟩, fun D nD => ?_⟩
        refine lc_it (walk_list (xs := (M34.subs l0).map tx)) (fun i H' => Same H5 H' ∧ ∃ bs : List AP, H' D = some (.lst (rfs bs)) ∧ Prods K H' bs ∧ bs.map Prod.snd = (((M34.subs l0).take i).filter fun t => (l0 :: LL).all fun o => M34.isP t o).map M23.tP)
          ⟨same_upd nD, [], upd_same, (fun b hb => by cases hb), rfl⟩ (fun i H' _ pp => .inl (.inl (pp.1 _ _ hS5))) (fun i x H6 H7 hi pp y => ?_) (fun H6 pp => ?_)
        · obtain ⟨s6, bs, hD, hpr, hbs⟩ := pp
          obtain ⟨rfl, y⟩ := y
          rw [List.getElem?_map] at y
          obtain ⟨t, ht, rfl⟩ := Option.map_eq_some_iff.mp y
          have htl : t.length ≤ 5 := by
            have := ((M34.subs_mem _).mp (List.mem_of_getElem? ht)).length_le
            omega
          have hbl : bs.length ≤ 32 := by
            have := congrArg List.length hbs
            rw [List.length_map, List.length_map] at this
            rw [this]
            refine Nat.le_trans (List.length_filter_le _ _) ?_
            rw [List.length_take]
            omega
          have hp6 := s6 _ _ hp5
          refine ⟨rfl, ?_⟩
          refine ⟨_, rfl, p, rfl, ⟨_, .inl (.inl hp6)⟩, fun D2 nD2 => ?_⟩
          refine lc_gen (walk_list (xs := (l0 :: LL).map tx)) (Same H7) (fun n acc => acc = ((l0 :: LL).take n).map fun o => V.bl (decide (t.Sublist o))) (by rw [List.length_map]; exact sz (by omega)) (fun n acc e => by rw [e, List.length_map, List.length_take]; omega) rfl (same_upd nD2) (fun _ _ h => same_up h nD2) (fun _ h => .inl (.inl (h _ _ hp6))) (fun n x H8 H9 acc C N hn rr hD2 ha y c nn => ?_) (fun H8 ys rr hD2 ha => ?_)
          · obtain ⟨rfl, y⟩ := y
            rw [List.getElem?_map] at y
            obtain ⟨o, ho, rfl⟩ := Option.map_eq_some_iff.mp y
            have hol := (hL o (List.mem_of_getElem? ho)).1
            refine ⟨rfl, yes_te ⟨_, rfl, _, rfl, t, o, rfl, sz (by omega), sz (by omega), fun H10 s10 => ?_⟩⟩
            refine c _ _ (rr.trans s10) (s10 _ _ hD2) ?_
            rw [ha, List.take_add_one, ho, List.map_append]
            rfl
          · subst ha
            rw [List.length_map, List.take_length] at hD2
            refine ⟨D2, (l0 :: LL).map fun o => decide (t.Sublist o), rfl, .inl (.inl (by rw [hD2, List.map_map]; rfl)), _, rfl, ?_⟩
            rw [hall]
            have hD8 := rr _ _ hD
            cases hg : (l0 :: LL).all fun o => M34.isP t o with
            | false =>
              refine iteF ?_
              refine ⟨s6.trans rr, bs, hD8, hpr.same rr, ?_⟩
              rw [hbs, List.take_add_one, ht, List.filter_append]
              rw [show (some t).toList = [t] from rfl, List.filter_cons_of_neg (by rw [hg]; decide), List.filter_nil, List.append_nil]
            | true =>
              refine iteT ?_
              refine ⟨_, rfl, t, rfl, sz (by omega), fun b nb => ?_⟩
              have sb := same_upd (o := .tup (t.map fun c => tx [c])) nb
              have hD9 := sb _ _ hD8
              have hb9 := upd_same (H := H8) (a := b) (o := .tup (t.map fun c => tx [c]))
              generalize upd H8 b (.tup (t.map fun c => tx [c])) = H9 at *
              refine ⟨_, hD9, by unfold rfs; rw [List.length_map, sizeLine_eq]; omega, ?_, bs ++ [(b, M23.tP t)], ?_, fun z hz => ?_, ?_⟩
              · exact same_up ((s6.trans rr).trans sb) nD
              · rw [upd_same]
                unfold rfs
                rw [List.map_append]
                rfl
              · rcases List.mem_append.mp hz with hz | hz
                · exact sqT_nl (((hpr.same rr).same sb) z hz) (NL.upd hD9)
                · rw [List.mem_singleton.mp hz]
                  refine sqT_nl (.inl (.inl ?_)) (NL.upd hD9)
                  rw [hb9]
                  unfold M23.tP
                  rw [List.map_map]
                  rfl
              · rw [List.map_append, hbs, List.take_add_one, ht, List.filter_append, List.map_append]
                rw [show (some t).toList = [t] from rfl, List.filter_cons_of_pos (p := fun t => (l0 :: LL).all fun o => M34.isP t o) hg, List.filter_nil]
                rfl
        · obtain ⟨s6, bs, hD, hpr, hbs⟩ := pp
          rw [List.length_map, List.take_length] at hbs
          have hbs' : bs.map Prod.snd = (M34.sureL (l0 :: LL)).map M23.tP := hbs
          refine ⟨_, rfl, a, T.C_Machine, dx, _, _, rfl, (s3.trans (s5.trans s6)) _ _ hat, T.cl_Machine, T.n_Machine_own_letters, rfl, _, rfl, sg, D, bs, rfl, hlet, .inl (.inl hD), hpr, fun b hb => ?_, ?_, fun H' x s' nx hO => ?_⟩
          · have hm : b.2 ∈ bs.map Prod.snd := List.mem_map_of_mem hb
            rw [hbs'] at hm
            obtain ⟨t, ht, he⟩ := List.mem_map.mp hm
            have hsub := M34.sureL_mem.mp ht l0 List.mem_cons_self
            rw [← he]
            refine ⟨fun y hy => ?_, ?_⟩
            · obtain ⟨c, hc, rfl⟩ := List.mem_map.mp hy
              exact .inl ⟨c, h0.2 c (hsub.subset hc), rfl⟩
            · unfold M23.tP
              rw [List.length_map]
              have := hsub.length_le
              omega
          · have := congrArg List.length hbs'
            rw [List.length_map, List.length_map] at this
            rw [this]
            refine Nat.le_trans M34.sureL_len ?_
            have : 2 ^ l0.length ≤ 2 ^ 5 := Nat.pow_le_pow_right (by decide) h0.1
            omega
          · have sall := s13.trans (s5.trans (s6.trans s'))
            refine q H' x sall ((s13.trans (s5.trans s6)).free nx) ?_
            rw [hbs'] at hO
            exact hO
end
end Lw
namespace Lw
open PySem PySem.Spec PyProof.Rows L3
open L2 hiding del del_same del_ne
section
variable {P : Program} {w : World} {K : PySem.W.Frag} {mg : Str → Option Value} {base : Heap}
def spLStar : Sp := fun vs H Q _ => ∃ x : List Nat, vs = [tx x] ∧ x ≠ [] ∧ x.length ≤ 10 ∧ Q (.bl (M23.isS x)) H
theorem ok_law_is_star (T : All K mg) : FnOk P w K mg base CX0 1 T.f_law_is_star T.d_law_is_star ["_law_piece"] spLStar := by
  refine T.law_is_star.F.ok sc_law_is_star (fun vs H Q E h => ?_) (fun cdv A outer s H vs Q E hr h => ?_)
  · obtain ⟨x, rfl, _⟩ := h
    rfl
  · obtain ⟨x, rfl, hx, hz, q⟩ := h
    refine ⟨_, pss_one (ps_ret (pe_cmpR op_eq (pe_ix ix_str (pv 0) (pe_un un_neg pe_int) (fun _ _ => rfl)) pe_str (by rfl))), ?_⟩
    obtain ⟨y, c, rfl⟩ : ∃ y c, x = y ++ [c] := ⟨x.dropLast, x.getLast hx, (List.dropLast_concat_getLast hx).symm⟩
    refine ⟨_, rfl, 1, rfl, tS (y ++ [c]), _, c, rfl, rfl, by rw [tS_len]; exact sz (by omega), ?_, rfl, ?_⟩
    · have e : ixN (y ++ [c]).length (-1) = some y.length := by
        unfold ixN
        rw [if_neg (by decide), List.length_append, List.length_singleton]
        rw [if_pos (by omega)]
        congr 1
        omega
      show atI (y ++ [c]) (-1) = some c
      unfold atI
      rw [e]
      show (y ++ [c])[y.length]? = some c
      simp
    · have e : decide (V.str (⟨#[c]⟩ : Str) = V.str "*") = M23.isS (y ++ [c]) := by
        unfold M23.isS
        rw [List.getLast?_concat]
        by_cases hc : c = 42
        · subst hc; decide +kernel
        · rw [decide_eq_false fun z => hc ?_]
          · symm; simpa using hc
          · have h := congrArg (fun z : V => match z with | .str x => x.cps.toList | _ => []) z
            have h2 : ([c] : List Nat) = [42] := h
            simpa using h2
      rw [e]
      exact q
def spFits : Sp := fun vs H Q _ => ∃ x y : List Nat, vs = [tx x, tx y] ∧ y ≠ [] ∧ y.length ≤ 10 ∧ M23.isS y = false ∧ Q (.bl (decide (x = y))) H
theorem ok_law_fits (T : All K mg) : FnOk P w K mg base CX0 2 T.f_law_fits T.d_law_fits ["_law_piece", "_law_other"] spFits := by
  refine T.law_fits.F.ok sc_law_fits (fun vs H Q E h => ?_) (fun cdv A outer s H vs Q E hr h => ?_)
  · obtain ⟨x, y, rfl, _⟩ := h
    rfl
  · obtain ⟨x, y, rfl, hy, hz, hs, q⟩ := h
    refine ⟨_, pss_cons (ps_if (pt_val (pe_call (ok_law_is_star T) (hr.mono (by decide)) (by rfl) T.law_is_star.g T.law_is_star.F.kp T.law_is_star.b .nil pass0 (pa_cons (pv 1) pa_nil))) (pss_one ps_never) pss_nil)
      (pss_one (ps_ret (pe_cmpR op_eq (pv 0) (pv 1) (by rfl)))), ?_⟩
    refine ⟨_, rfl, y, rfl, hy, hz, _, rfl, ?_⟩
    rw [hs]
    refine iteF ?_
    refine ⟨_, rfl, _, rfl, rfl, ?_⟩
    have e : decide (tx x = tx y) = decide (x = y) := by
      by_cases h : x = y
      · rw [h, decide_eq_true rfl, decide_eq_true rfl]
      · rw [decide_eq_false h, decide_eq_false fun z => h (tx_inj z)]
    rw [e]
    exact q
def spWithin (K : PySem.W.Frag) : Sp := fun vs H Q _ => ∃ (v u : Addr) (t s : List Nat), vs = [.ref v, .ref u] ∧ SqT K H v ((M23.tP t).map tx) ∧ SqT K H u ((M23.tP s).map tx) ∧ t.length ≤ 10 ∧ s.length ≤ 10 ∧ 42 ∉ s ∧ Q (.bl (decide (t.Sublist s))) H
theorem ok_law_within (T : All K mg) : FnOk P w K mg base CX0 3 T.f_law_within T.d_law_within ["_law_one", "_law_other"] (spWithin K) := by
  refine T.law_within.F.ok sc_law_within (fun vs H Q E h => ?_) (fun cdv A outer s H vs Q E hr h => ?_)
  · obtain ⟨v, u, t, s, rfl, _⟩ := h
    rfl
  · obtain ⟨v, u, t, z, rfl, hv, hu, ht, hz, h42, q⟩ := h
    refine ⟨_, pss_cons (ps_set (i := 2) sc_law_within.nd rfl (by first | exact Or.inl rfl | exact Or.inr rfl) pe_int)
      (pss_cons (ps_for PassesOwn.never rfl (pi_tup (pv 0)) (pg_name (i := 3) sc_law_within.nd rfl (by first | exact Or.inl rfl | exact Or.inr rfl))
        (pss_cons (ps_for PassesOwn.never rfl (pi_range1 rfl T.b_range (pa_cons (pe_callB call_len_seq (by rfl) T.b_len PySem.boot_len (pa_cons (pv 1) pa_nil)) pa_nil)) (pg_name (i := 4) sc_law_within.nd rfl (by first | exact Or.inl rfl | exact Or.inr rfl))
        (pss_one (ps_if (PW.pt (pw_and (pt_cmpR op_lt (pv 2) (pe_callB call_len_seq (by rfl) T.b_len PySem.boot_len (pa_cons (pv 1) pa_nil)) (nomark _)) (pw_and1 (pt_not (pt_val (pe_call (ok_law_fits T) (hr.mono (by decide)) (by rfl) T.law_fits.g T.law_fits.F.kp T.law_fits.b .nil pass0 (pa_cons (pv 3) (pa_cons (pe_ix ix_tup (pv 1) (pv 2) (fun _ _ => rfl)) pa_nil)))))))) (pss_one (ps_aug (i := 2) sc_law_within.nd rfl (by first | exact Or.inl rfl | exact Or.inr rfl) pe_int ip_add)) pss_nil)))
      (pss_cons (ps_if (pt_cmpR op_eq (pv 2) (pe_callB call_len_seq (by rfl) T.b_len PySem.boot_len (pa_cons (pv 1) pa_nil)) (nomark _)) (pss_one (ps_ret pe_bl)) pss_nil)
      (pss_one (ps_aug (i := 2) sc_law_within.nd rfl (by first | exact Or.inl rfl | exact Or.inr rfl) (pe_callTy call_int1 (by rfl) T.b_int PyProof.Rows.boot_int (pa_cons (pe_not (pe_call (ok_law_is_star T) (hr.mono (by decide)) (by rfl) T.law_is_star.g T.law_is_star.F.kp T.law_is_star.b .nil pass0 (pa_cons (pe_ix ix_tup (pv 1) (pv 2) (fun _ _ => rfl)) pa_nil))) pa_nil)) ip_add)))))
      (pss_one (ps_ret pe_bl))), ?_⟩
    have hsv : (M23.tP z)[0]? = (M23.tP z)[0]? := rfl
    clear hsv
    have hlz : ((M23.tP z).map tx).length = z.length := by unfold M23.tP; rw [List.length_map, List.length_map]
    have hlt : ((M23.tP t).map tx).length = t.length := by unfold M23.tP; rw [List.length_map, List.length_map]
    have hat : ∀ (l : List Nat) (i : Nat), ((M23.tP l).map tx)[i]? = l[i]?.map fun c => tx [c] := fun l i => by unfold M23.tP; rw [List.map_map, List.getElem?_map]; rfl
    refine seq_to ?_
    dsimp only [gName]
    refine seq_to ?_
    refine ⟨_, rfl, v, rfl, ⟨_, hv⟩, for_it (walk_tup (xs := (M23.tP t).map tx)) (fun j σ H' => ∃ (at' : Nat) (x3 x4 : Option V), σ = [some (.ref v), some (.ref u), some (.int (at' : Int)), x3, x4] ∧ H' = H ∧ at' ≤ z.length ∧ (t.Sublist z ↔ (t.drop j).Sublist (z.drop at'))) ⟨0, none, none, rfl, rfl, Nat.zero_le _, Iff.rfl⟩ (fun j σ H' _ pp => by obtain ⟨_, _, _, _, rfl, _⟩ := pp; exact hv) (fun j x σ H1 H2 hj pp y => ?_) (fun σ H1 pp => ?_)⟩
    · obtain ⟨at0, x3, x4, rfl, rfl, ha0, hiff⟩ := pp
      obtain ⟨rfl, y⟩ := y
      rw [hat] at y
      obtain ⟨c, hc, rfl⟩ := Option.map_eq_some_iff.mp y
      rw [hlt] at hj
      have hdj : t.drop j = c :: t.drop (j + 1) := by
        obtain ⟨_, e⟩ := List.getElem?_eq_some_iff.mp hc
        rw [List.drop_eq_getElem_cons hj, e]
      rw [hdj] at hiff
      dsimp only [gName]
      refine seq_to ?_
      refine ⟨_, rfl, u, _, rfl, .inr hu, ?_⟩
      refine ⟨_, rfl, by omega, by omega, ?_⟩
      rw [show ((((M23.tP z).map tx).length : Nat) : Int).toNat = z.length by rw [hlz]; omega]
      refine for_it walk_range (fun i σ H' => ∃ (at' : Nat) (x4 : Option V), σ = [some (.ref v), some (.ref u), some (.int (at' : Int)), some (tx [c]), x4] ∧ H' = H2 ∧ at0 ≤ at' ∧ at' ≤ z.length ∧ ((c :: t.drop (j + 1)).Sublist (z.drop at0) ↔ (c :: t.drop (j + 1)).Sublist (z.drop at')) ∧ (at' = z.length ∨ z[at']? = some c ∨ at' = at0 + i)) ⟨at0, x4, rfl, rfl, Nat.le_refl _, ha0, Iff.rfl, .inr (.inr rfl)⟩ (fun _ _ _ _ _ => trivial) (fun i x σ H3 H4 hi pp yy => ?_) (fun σ H3 pp => ?_)
      · obtain ⟨at1, x4, rfl, rfl, h1, h2, h3, h4⟩ := pp
        obtain ⟨rfl, rfl⟩ := yy
        refine ⟨_, rfl, _, rfl, u, _, rfl, .inr hu, _, _, rfl, rfl, _, rfl, ?_⟩
        by_cases hlt1 : at1 < z.length
        · refine ite_t (decide_eq_true (by rw [hlz]; omega)) ?_
          have hd : z[at1]? = some z[at1] := List.getElem?_eq_getElem hlt1
          have hdz : z.drop at1 = z[at1] :: z.drop (at1 + 1) := List.drop_eq_getElem_cons hlt1
          generalize z[at1] = d at *
          have hdm : d ≠ 42 := fun e => h42 (by rw [← e]; exact List.mem_of_getElem? hd)
          refine ⟨_, rfl, _, rfl, _, rfl, u, _, _, _, rfl, rfl, hu, atI_nat (by rw [hat, hd]; rfl), [c], [d], rfl, by simp, by simp, M23.isS_one hdm, _, rfl, ?_⟩
          by_cases hcd : c = d
          · subst hcd
            rw [decide_eq_true rfl]
            refine iteF ?_
            exact ⟨at1, _, rfl, rfl, h1, h2, h3, .inr (.inl hd)⟩
          · rw [decide_eq_false (fun e => hcd (by simpa using e))]
            refine iteT ?_
            refine ⟨_, rfl, _, _, rfl, rfl, at1 + 1, _, rfl, rfl, by omega, hlt1, h3.trans ?_, ?_⟩
            · rw [hdz]
              constructor
              · intro s
                cases s with
                | cons _ s => exact s
                | cons_cons _ s => exact absurd rfl hcd
              · exact fun s => s.cons d
            · rcases h4 with h4 | h4 | h4
              · omega
              · rw [hd] at h4
                exact absurd (Option.some.inj h4).symm hcd
              · exact .inr (.inr (by omega))
        · refine ite_f (decide_eq_false (by rw [hlz]; omega)) (iteF ?_)
          exact ⟨at1, _, rfl, rfl, h1, h2, h3, .inl (by omega)⟩
      · obtain ⟨at1, x4, rfl, rfl, h1, h2, h3, h4⟩ := pp
        dsimp only
        refine seq_to ?_
        refine ⟨_, rfl, _, rfl, u, _, rfl, .inr hu, rfl, _, rfl, ?_⟩
        by_cases hlt1 : at1 < z.length
        · refine ite_f (decide_eq_false fun e => by have := V.int.inj e; rw [hlz] at this; omega) ?_
          have hd : z[at1]? = some c := by
            rcases h4 with h4 | h4 | h4
            · omega
            · exact h4
            · omega
          have hdz : z.drop at1 = c :: z.drop (at1 + 1) := by
            obtain ⟨_, e⟩ := List.getElem?_eq_some_iff.mp hd
            rw [List.drop_eq_getElem_cons hlt1, e]
          have hdm : c ≠ 42 := fun e => h42 (by rw [← e]; exact List.mem_of_getElem? hd)
          dsimp only [tNext]
          refine ⟨_, rfl, _, rfl, _, rfl, u, _, _, _, rfl, rfl, hu, atI_nat (by rw [hat, hd]; rfl), [c], rfl, by simp, by simp, _, rfl, .inr ⟨_, rfl, ?_⟩⟩
          rw [M23.isS_one hdm]
          refine ⟨_, _, rfl, rfl, at1 + 1, _, _, rfl, rfl, hlt1, ?_⟩
          rw [hiff, h3, hdz, List.cons_sublist_cons]
        · refine ite_t (decide_eq_true (by rw [hlz]; congr 1; omega)) ?_
          have e : at1 = z.length := by omega
          have : decide (t.Sublist z) = false := decide_eq_false fun hs => by
            have := h3.mp (hiff.mp hs)
            rw [e, List.drop_length] at this
            cases this
          rw [this] at q
          exact q
    · obtain ⟨at0, x3, x4, rfl, rfl, ha0, hiff⟩ := pp
      rw [hlt, List.drop_length] at hiff
      have : decide (t.Sublist z) = true := decide_eq_true (hiff.mpr (List.nil_sublist _))
      rw [this] at q
      exact q
end
end Lw
namespace Lw
open PySem PySem.Spec PyProof.Rows L3
open L2 hiding del del_same del_ne
theorem cutV_nn (xs : List V) (i j : Nat) : cutV xs (some (i : Int)) (some (j : Int)) = (xs.drop (min i xs.length)).take (min j xs.length - min i xs.length) := by
  unfold cutV
  rw [HT.sIx_nat, HT.sIx_nat]
/-- what stands beside the piece at k -/
def nb (p : M23.Pd) (k : Nat) : M23.Pd := (p.drop (k - 1)).take (k - (k - 1)) ++ (p.drop (k + 1)).take 1
theorem nb_mem {p : M23.Pd} {k : Nat} (hk : k < p.length) {y : M23.Pc} : y ∈ nb p k ↔ (0 < k ∧ p[k - 1]? = some y) ∨ p[k + 1]? = some y := by
  unfold nb
  rw [List.mem_append]
  have h1 : y ∈ (p.drop (k + 1)).take 1 ↔ p[k + 1]? = some y := by
    cases e : p[k + 1]? with
    | none => rw [List.drop_of_length_le (List.getElem?_eq_none_iff.mp e)]; simp
    | some z =>
      obtain ⟨h, e⟩ := List.getElem?_eq_some_iff.mp e
      rw [List.drop_eq_getElem_cons h, List.take_succ_cons, List.take_zero, e, List.mem_singleton]
      exact ⟨fun z => by rw [z], fun z => (Option.some.inj z).symm⟩
  have h2 : y ∈ (p.drop (k - 1)).take (k - (k - 1)) ↔ 0 < k ∧ p[k - 1]? = some y := by
    by_cases h0 : k = 0
    · subst h0; simp
    · have hk1 : k - 1 < p.length := by omega
      rw [show k - (k - 1) = 1 by omega, List.drop_eq_getElem_cons hk1, List.take_succ_cons, List.take_zero, List.mem_singleton, List.getElem?_eq_getElem hk1]
      exact ⟨fun z => ⟨by omega, by rw [z]⟩, fun z => (Option.some.inj z.2).symm⟩
  rw [h1, h2]
theorem nb_sub {p : M23.Pd} {k : Nat} {y : M23.Pc} (h : y ∈ nb p k) : y ∈ p := by
  rcases List.mem_append.mp h with h | h
  · exact List.mem_of_mem_drop (List.mem_of_mem_take h)
  · exact List.mem_of_mem_drop (List.mem_of_mem_take h)
theorem pick_map {α β : Type} {f : α → β} {B : List α} : ∀ {L : List β}, (∀ p ∈ L, p ∈ B.map f) → ∃ Lp : List α, L = Lp.map f ∧ ∀ x ∈ Lp, x ∈ B
  | [], _ => ⟨[], rfl, fun x h => by cases h⟩
  | y :: L, h => by
    obtain ⟨Lp, rfl, h2⟩ := pick_map (L := L) fun p hp => h p (List.mem_cons_of_mem _ hp)
    obtain ⟨x, hx, rfl⟩ := List.mem_map.mp (h y List.mem_cons_self)
    exact ⟨x :: Lp, rfl, fun z hz => by
      rcases List.mem_cons.mp hz with rfl | hz
      · exact hx
      · exact h2 z hz⟩
/-- products as the sums of this law keep them -/
structure LKp (kp : List M23.Pd) : Prop where
  one : (∀ p ∈ kp, ∃ q : List Nat, p = M23.tP q ∧ q.length ≤ 10 ∧ ∀ c ∈ q, 97 ≤ c ∧ c ≤ 122) ∨ ∃ sg, Lets sg ∧ kp = [[sg ++ [42]]]
  can : M23.canon kp = kp
  anti : ∀ p ∈ kp, ∀ q ∈ kp, p ≠ q → ¬ M23.Emb p q
  few : kp.length ≤ 40
/-- one product of them -/
structure LP1 (p : M23.Pd) : Prop where
  len : p.length ≤ 10
  ok : ∀ y ∈ p, M23.Ok y ∧ y ≠ [] ∧ y.length ≤ 10 ∧ ∀ c ∈ y, c < 1114112
  st : (∀ y ∈ p, M23.isS y = false) ∨ p.length ≤ 1
theorem LKp.at_ {kp : List M23.Pd} (h : LKp kp) {p : M23.Pd} (hp : p ∈ kp) : LP1 p := by
  rcases h.one with h1 | ⟨sg, hl, rfl⟩
  · obtain ⟨q, rfl, hq, hz⟩ := h1 p hp
    refine ⟨by unfold M23.tP; rw [List.length_map]; exact hq, fun y hy => ?_, .inl fun y hy => ?_⟩
    · obtain ⟨c, hc, rfl⟩ := List.mem_map.mp hy
      have := hz c hc
      exact ⟨.inl ⟨c, by omega, rfl⟩, by simp, by simp, fun d hd => by rw [List.mem_singleton.mp hd]; omega⟩
    · obtain ⟨c, hc, rfl⟩ := List.mem_map.mp hy
      have := hz c hc
      exact M23.isS_one (by omega)
  · rw [List.mem_singleton.mp hp]
    refine ⟨by show 1 ≤ 10; decide, fun y hy => ?_, .inr (Nat.le_refl _)⟩
    rw [List.mem_singleton.mp hy]
    have hf := hl.few
    refine ⟨.inr ⟨sg, (fun e => by have := hl.ne; rw [e] at this; cases this), hl.up, (fun z => by have := hl.az _ z; omega), rfl⟩, by simp, by rw [List.length_append, List.length_singleton]; omega, fun c hc => ?_⟩
    rcases List.mem_append.mp hc with hc | hc
    · have := hl.az c hc; omega
    · rw [List.mem_singleton.mp hc]; decide
section
variable {P : Program} {w : World} {K : PySem.W.Frag} {mg : Str → Option Value} {base : Heap}
def spRedL (K : PySem.W.Frag) : Sp := fun vs H Q _ => ∃ (v : Addr) (p : M23.Pd), vs = [.ref v] ∧ SqT K H v (p.map tx) ∧ LP1 p ∧ ∀ H' a, Same H H' → H a = none → H' a = some (.tup (p.map tx)) → Q (.ref a) H'
theorem ok_law_reduced (T : All K mg) : FnOk P w K mg base CX0 3 T.f_law_reduced T.d_law_reduced ["_law_product"] (spRedL K) := by
  refine T.law_reduced.F.ok sc_law_reduced (fun vs H Q E h => ?_) (fun cdv A outer s H vs Q E hr h => ?_)
  · obtain ⟨v, p, rfl, _⟩ := h
    rfl
  · obtain ⟨v, p, rfl, hv, hp, q⟩ := h
    refine ⟨_, pss_cons (ps_set (i := 1) sc_law_reduced.nd rfl (by first | exact Or.inl rfl | exact Or.inr rfl) (pe_callTy call_list_of (by rfl) T.b_list PyProof.Rows.boot_list (pa_cons (pv 0) pa_nil)))
      (pss_cons (ps_for PassesOwn.never rfl (pi_range1 rfl T.b_range (pa_cons (pe_callB call_len_seq (by rfl) T.b_len PySem.boot_len (pa_cons (pv 0) pa_nil)) pa_nil)) (pg_name (i := 2) sc_law_reduced.nd rfl (by first | exact Or.inl rfl | exact Or.inr rfl))
        (pss_one (ps_for PassesOwn.never rfl (pi_range1 rfl T.b_range (pa_cons (pe_callB call_len_seq (by rfl) T.b_len PySem.boot_len (pa_cons (pv 1) pa_nil)) pa_nil)) (pg_name (i := 3) sc_law_reduced.nd rfl (by first | exact Or.inl rfl | exact Or.inr rfl))
        (pss_cons (ps_set (i := 4) sc_law_reduced.nd rfl (by first | exact Or.inl rfl | exact Or.inr rfl) (pe_op op_cat (pe_slice sl_list (pv 1) (po_some (pe_callB (call_max2 rfl) (by rfl) T.b_max PyProof.Rows.boot_max (pa_cons pe_int (pa_cons (pe_op op_sub (pv 3) pe_int) pa_nil)))) (po_some (pv 3))) (pe_slice sl_list (pv 1) (po_some (pe_op op_add (pv 3) pe_int)) (po_some (pe_op op_add (pv 3) pe_int)))))
      (pss_one (ps_if (pt_val (pe_callB (cr_any rfl) (by rfl) T.b_any PyProof.Rows.boot_any (pa_cons (pe_lc (own := [("_law_one", 5)]) (g := gName 5) (tt := tYes) rfl sc_law_reduced.nd (pi_list (pv 4))
          (blkOk_by (own := [("_law_one", 5)]) (N := ["_law_product", "_law_found", "_law_turn", "_law_at", "_law_near", "_law_one"]) (sc := defScope s_law_reduced) (by decide +kernel))
          (fun _ _ _ _ _ => pg_name (i := 5) sc_law_reduced.nd rfl (by first | exact Or.inl rfl | exact Or.inr rfl)) (fun _ _ _ _ _ => pts_nil)
          (fun _ _ _ _ _ => (pe_and (pe_call (ok_law_is_star T) (hr.mono (by decide)) (by rfl) T.law_is_star.g T.law_is_star.F.kp T.law_is_star.b .nil pass0 (pa_cons (pv 5) pa_nil))
        (pe_one (pe_call (ok_law_fits T) (hr.mono (by decide)) (by rfl) T.law_fits.g T.law_fits.F.kp T.law_fits.b .nil pass0 (pa_cons (pe_ix (ix_listK (K := K) rfl) (pv 1) (pv 3) (fun _ _ => rfl)) (pa_cons (pv 5) pa_nil))))))) pa_nil))) (pss_cons ps_never (pss_one ps_never)) pss_nil))))))
      (pss_one (ps_ret (pe_callTy call_tuple_of (by rfl) T.b_tuple (show bootBuiltins "tuple" = some (.type "tuple") by decide +kernel) (pa_cons (pv 1) pa_nil))))), ?_⟩
    dsimp only [cxOf]
    have hpz := hp.len
    have hpl : (p.map tx).length = p.length := List.length_map _
    refine ⟨_, rfl, v, _, rfl, .inr hv, fun F nF => ?_⟩
    have sF := same_upd (o := .lst (p.map tx)) nF
    have hF := upd_same (H := H) (a := F) (o := .lst (p.map tx))
    generalize upd H F (.lst (p.map tx)) = H0 at *
    dsimp only [gName]
    refine seq_to ?_
    refine ⟨_, rfl, v, _, rfl, .inr (sqT_same hv sF), _, rfl, by omega, by omega, ?_⟩
    refine for_it walk_range (fun i σ H' => ∃ g2 g3 g4, σ = [some (.ref v), some (.ref F), g2, g3, g4, none] ∧ Same H0 H') ⟨none, none, none, rfl, Same.refl _⟩ (fun _ _ _ _ _ => trivial) (fun i x σ H1 H2 hi pp yy => ?_) (fun σ H1 pp => ?_)
    · obtain ⟨g2, g3, g4, rfl, s1⟩ := pp
      obtain ⟨rfl, rfl⟩ := yy
      dsimp only [gName]
      refine ⟨_, rfl, F, _, rfl, .inl (.inl (.inl (s1 _ _ hF))), _, rfl, by omega, by omega, ?_⟩
      refine for_it walk_range (fun j σ H' => ∃ g3 g4, σ = [some (.ref v), some (.ref F), some (.int (0 + (i : Int))), g3, g4, none] ∧ Same H0 H') ⟨_, _, rfl, s1⟩ (fun _ _ _ _ _ => trivial) (fun k x σ H3 H2 hk pp yy => ?_) (fun σ H3 pp => ?_)
      · obtain ⟨g3, g4, rfl, s2⟩ := pp
        obtain ⟨rfl, rfl⟩ := yy
        have hkp : k < p.length := by
          rw [hpl] at hk
          omega
        have hFs := s2 _ _ hF
        obtain ⟨x, hx⟩ : ∃ x, p[k]? = some x := ⟨_, List.getElem?_eq_getElem hkp⟩
        have e0 : (0 : Int) + (k : Int) = ((k : Nat) : Int) := Int.zero_add _
        show gName 3 (V.int ((0 : Int) + (k : Int))) _ _ _
        rw [e0]
        have hmx : (if ((k : Nat) : Int) - 1 > 0 then ((k : Nat) : Int) - 1 else 0) = ((k - 1 : Nat) : Int) := by split <;> omega
        have c1 : cutV (p.map tx) (some (if ((k : Nat) : Int) - 1 > 0 then ((k : Nat) : Int) - 1 else 0)) (some ((k : Nat) : Int)) = ((p.drop (k - 1)).take (k - (k - 1))).map tx := by
          rw [hmx, cutV_nn, hpl, List.map_take, List.map_drop, show min (k - 1) p.length = k - 1 by omega, show min k p.length = k by omega]
        have c2 : cutV (p.map tx) (some (((k : Nat) : Int) + 1)) (some (((k : Nat) : Int) + 2)) = ((p.drop (k + 1)).take 1).map tx := by
          rw [show ((k : Nat) : Int) + 1 = ((k + 1 : Nat) : Int) by omega, show ((k : Nat) : Int) + 2 = ((k + 2 : Nat) : Int) by omega, cutV_nn, hpl, List.map_take, List.map_drop, show min (k + 1) p.length = k + 1 by omega]
          by_cases h : k + 2 ≤ p.length
          · rw [show min (k + 2) p.length - (k + 1) = 1 by omega]
          · rw [List.drop_of_length_le (by rw [hpl]; omega), List.take_nil, List.take_nil]
        dsimp only [gName]
        refine seq_to ?_
        refine ⟨_, rfl, _, rfl, _, _, rfl, rfl, _, _, rfl, _, rfl, _, rfl, _, rfl, F, _, rfl, .inl (.inl hFs), fun p1 np1 => ?_⟩
        have t1 := same_upd (o := .lst (cutV (p.map tx) (some (if ((k : Nat) : Int) - 1 > 0 then ((k : Nat) : Int) - 1 else 0)) (some ((k : Nat) : Int)))) np1
        have hp1 : upd H2 p1 (.lst (cutV (p.map tx) (some (if ((k : Nat) : Int) - 1 > 0 then ((k : Nat) : Int) - 1 else 0)) (some ((k : Nat) : Int)))) p1 = some (.lst (((p.drop (k - 1)).take (k - (k - 1))).map tx)) := by rw [upd_same, c1]
        have s3 := s2.trans t1
        generalize upd H2 p1 (.lst (cutV (p.map tx) (some (if ((k : Nat) : Int) - 1 > 0 then ((k : Nat) : Int) - 1 else 0)) (some ((k : Nat) : Int)))) = H3 at *
        refine ⟨_, rfl, _, rfl, _, _, rfl, rfl, _, rfl, _, rfl, _, _, rfl, rfl, _, rfl, F, _, rfl, .inl (.inl (s3 _ _ hF)), fun p2 np2 => ?_⟩
        have t2 := same_upd (o := .lst (cutV (p.map tx) (some (((k : Nat) : Int) + 1)) (some (((k : Nat) : Int) + 2)))) np2
        have hp2 : upd H3 p2 (.lst (cutV (p.map tx) (some (((k : Nat) : Int) + 1)) (some (((k : Nat) : Int) + 2)))) p2 = some (.lst (((p.drop (k + 1)).take 1).map tx)) := by rw [upd_same, c2]
        have hp1' := t2 _ _ hp1
        have s4 := s3.trans t2
        generalize upd H3 p2 (.lst (cutV (p.map tx) (some (((k : Nat) : Int) + 1)) (some (((k : Nat) : Int) + 2)))) = H4 at *
        clear t1 t2 hp1 s3 np1 np2
        refine ⟨p1, p2, _, _, rfl, rfl, hp1', hp2, ?_, fun p3 np3 => ?_⟩
        · rw [List.length_map, List.length_map, List.length_take, List.length_take, List.length_drop, List.length_drop, sizeLine_eq]; omega
        rw [← List.map_append]
        have t3 := same_upd (o := .lst ((nb p k).map tx)) np3
        have hp3 := upd_same (H := H4) (a := p3) (o := .lst ((nb p k).map tx))
        have s5 := s4.trans t3
        have hnb : (p.drop (k - 1)).take (k - (k - 1)) ++ (p.drop (k + 1)).take 1 = nb p k := rfl
        rw [hnb]
        generalize upd H4 p3 (.lst ((nb p k).map tx)) = H5 at *
        clear hp1' hp2 s4 t3 np3 c1 c2 hmx hnb
        have hnbl : (nb p k).length ≤ 4 := by
          unfold nb
          rw [List.length_append, List.length_take, List.length_take]
          omega
        have hnst : ∀ y ∈ nb p k, M23.isS y = false := fun y hy => by
          rcases hp.st with h | h
          · exact h y (nb_sub hy)
          · exfalso
            have hk0 : k = 0 := by omega
            subst hk0
            rcases (nb_mem hkp).mp hy with ⟨h0, _⟩ | h1
            · omega
            · have := (List.getElem?_eq_some_iff.mp h1).1
              omega
        dsimp only [gName]
        refine ⟨_, rfl, p3, rfl, ⟨_, .inl (.inl hp3)⟩, fun D nD => ?_⟩
        refine lc_gen (walk_list (xs := (nb p k).map tx)) (Same H5) (fun n acc => acc = (List.replicate n false).map V.bl) (by rw [List.length_map]; exact sz (by omega)) (fun n acc e => by rw [e, List.length_map, List.length_replicate]; exact Nat.le_refl _) rfl (same_upd nD) (fun _ _ h => same_up h nD) (fun _ h => .inl (.inl (h _ _ hp3))) (fun n y H6 H7 acc C N hn rr hD ha yy c nn => ?_) (fun H6 xs rr hD ha => ?_)
        · obtain ⟨rfl, yy⟩ := yy
          rw [List.getElem?_map] at yy
          obtain ⟨y, hy, rfl⟩ := Option.map_eq_some_iff.mp yy
          have hym := List.mem_of_getElem? hy
          obtain ⟨_, h1, h2, _⟩ := hp.ok y (nb_sub hym)
          refine ⟨rfl, yes_te ⟨_, rfl, y, rfl, h1, h2, _, rfl, ?_⟩⟩
          rw [hnst y hym]
          refine iteF ?_
          refine c _ _ rr hD ?_
          rw [ha, List.replicate_succ', List.map_append]
          rfl
        · subst ha
          refine ⟨D, List.replicate _ false, rfl, .inl (.inl hD), _, rfl, ?_⟩
          rw [any_id_rep]
          refine iteF ?_
          exact ⟨_, _, rfl, s5.trans rr⟩
      · obtain ⟨g3, g4, rfl, s2⟩ := pp
        exact ⟨_, _, _, rfl, s2⟩
    · obtain ⟨g2, g3, g4, rfl, s1⟩ := pp
      refine ⟨_, rfl, F, _, rfl, .inl ⟨.inl (.inl (s1 _ _ hF)), fun l nl => ?_⟩⟩
      exact q _ l ((sF.trans s1).trans (same_upd nl)) ((sF.trans s1).free nl) upd_same
def spLKept (K : PySem.W.Frag) : Sp := fun vs H Q _ => ∃ (l : Addr) (bs : List AP), vs = [.ref l] ∧ SqL K H l (rfs bs) ∧ Prods K H bs ∧ LKp (bs.map Prod.snd) ∧
  ∀ H' p (cs : List AP), Same H H' → H p = none → H' p = some (.lst (rfs cs)) → Prods K H' cs → cs.map Prod.snd = bs.map Prod.snd → Q (.ref p) H'
theorem ok_law_kept (T : All K mg) : FnOk P w K mg base CX0 5 T.f_law_kept T.d_law_kept ["_law_products"] (spLKept K) := by
  refine T.law_kept.F.ok sc_law_kept (fun vs H Q E h => ?_) (fun cdv A outer s H vs Q E hr h => ?_)
  · obtain ⟨l, bs, rfl, _⟩ := h
    rfl
  · obtain ⟨l, bs, rfl, hS, hP, hk, q⟩ := h
    refine ⟨_, pss_cons (ps_set (i := 1) sc_law_kept.nd rfl (by first | exact Or.inl rfl | exact Or.inr rfl) (pe_callB (cr_sortTS rfl (u64 hr)) (by rfl) T.b_sorted PyProof.Rows.boot_sorted (pa_cons (pe_callTy (cr_setTT rfl (u64 hr)) (by rfl) T.b_set (show bootBuiltins "set" = some (.type "set") by decide +kernel) (pa_cons (pe_lc (own := [("_law_product", 2)]) (g := gName 2) (tt := tYes) rfl sc_law_kept.nd (pi_list (pv 0))
          (blkOk_by (own := [("_law_product", 2)]) (N := ["_law_products", "_law_some", "_law_product", "_law_found", "_law_one", "_law_other"]) (sc := defScope s_law_kept) (by decide +kernel))
          (fun _ _ _ _ _ => pg_name (i := 2) sc_law_kept.nd rfl (by first | exact Or.inl rfl | exact Or.inr rfl)) (fun _ _ _ _ _ => pts_nil)
          (fun _ _ _ _ _ => (pe_call (ok_law_reduced T) (hr.mono (by decide)) (by rfl) T.law_reduced.g T.law_reduced.F.kp T.law_reduced.b .nil pass0 (pa_cons (pv 2) pa_nil)))) pa_nil)) pa_nil)))
      (pss_cons (ps_set (i := 3) sc_law_kept.nd rfl (by first | exact Or.inl rfl | exact Or.inr rfl) (pe_lst pa_nil))
      (pss_cons (ps_for PassesOwn.never rfl (pi_list (pv 1)) (pg_name (i := 4) sc_law_kept.nd rfl (by first | exact Or.inl rfl | exact Or.inr rfl))
        (pss_one (ps_if (pt_not (pt_val (pe_callB (cr_any rfl) (by rfl) T.b_any PyProof.Rows.boot_any (pa_cons (pe_lc (own := [("_law_other", 5)]) (g := gName 5) (tt := tYes) rfl sc_law_kept.nd (pi_list (pv 1))
          (blkOk_by (own := [("_law_other", 5)]) (N := ["_law_products", "_law_some", "_law_product", "_law_found", "_law_one", "_law_other"]) (sc := defScope s_law_kept) (by decide +kernel))
          (fun _ _ _ _ _ => pg_name (i := 5) sc_law_kept.nd rfl (by first | exact Or.inl rfl | exact Or.inr rfl)) (fun _ _ _ _ _ => pts_nil)
          (fun _ _ _ _ _ => (pe_and (pe_cmpR (op_neDK (K := K) rfl (u64 hr)) (pv 4) (pv 5) (by rfl))
        (pe_one (pe_call (ok_law_within T) (hr.mono (by decide)) (by rfl) T.law_within.g T.law_within.F.kp T.law_within.b .nil pass0 (pa_cons (pv 4) (pa_cons (pv 5) pa_nil))))))) pa_nil)))) (pss_one (ps_expr (pe_bm PySem.F.plainAttrs_list PySem.F.slot_list_append PySem.F.type_list_append mt_append (pv 3) (pa_cons (pv 4) pa_nil)))) pss_nil)))
      (pss_one (ps_ret (pv 3))))), ?_⟩
    dsimp only [cxOf]
    have hbl : (rfs bs).length = bs.length := List.length_map _
    have hsize : sizeLine = 16777216 := sizeLine_eq
    have hz : bs.length ≤ 40 := by have := hk.few; rwa [List.length_map] at this
    have hat : ∀ b ∈ bs, LP1 b.2 := fun b hb => hk.at_ (List.mem_map_of_mem hb)
    refine ⟨_, rfl, l, rfl, ⟨_, hS⟩, fun D nD => ?_⟩
    refine lc_it (walk_list (xs := rfs bs)) (fun i H' => Same H H' ∧ ∃ L : List AP, H' D = some (.lst (rfs L)) ∧ L.length = i ∧ L.map Prod.snd = (bs.take i).map Prod.snd ∧ ∀ x ∈ L, H' x.1 = some (.tup (x.2.map tx))) ⟨same_upd nD, [], upd_same, rfl, rfl, fun x h => by cases h⟩ (fun i H' _ pp => sq_same hS pp.1) (fun i x H1 H2 hi pp yy => ?_) (fun H1 pp => ?_)
    · obtain ⟨s1, L, hD, hLl, hL, hLp⟩ := pp
      obtain ⟨rfl, yy⟩ := yy
      rw [show (rfs bs)[i]? = (bs[i]?).map fun b => V.ref b.1 from List.getElem?_map] at yy
      obtain ⟨b, hb, rfl⟩ := Option.map_eq_some_iff.mp yy
      have hbm := List.mem_of_getElem? hb
      refine ⟨rfl, yes_te ?_⟩
      refine ⟨_, rfl, b.1, b.2, rfl, sqT_same (hP b hbm) s1, hat b hbm, fun H3 a s3 na ha => ?_⟩
      have hD3 := s3 _ _ hD
      have hnaD : a ≠ D := fun z => by rw [z, hD] at na; cases na
      refine ⟨_, hD3, by unfold rfs; rw [List.length_map, hLl]; omega, same_up (s1.trans s3) nD, L ++ [(a, b.2)], ?_, ?_, ?_, fun x hx => ?_⟩
      · rw [upd_same]; unfold rfs; rw [List.map_append]; rfl
      · rw [List.length_append, hLl]; rfl
      · rw [List.map_append, hL, List.take_add_one, hb, List.map_append]; rfl
      · rcases List.mem_append.mp hx with hx | hx
        · exact up_tup hD3 (s3 _ _ (hLp x hx))
        · rw [List.mem_singleton.mp hx]
          rw [upd_ne hnaD]
          exact ha
    · obtain ⟨s1, L, hD, hLl, hL, hLp⟩ := pp
      rw [hbl, List.take_length] at hL
      have hLl2 : L.length = bs.length := by omega
      have hLz : ∀ x ∈ L, LP1 x.2 := fun x hx => hk.at_ (hL ▸ List.mem_map_of_mem hx)
      have hrf : rfs L = (L.map txs).map fun p => V.ref p.1 := by unfold rfs; rw [List.map_map]; rfl
      have hLd : ∀ H', Same H1 H' → ∀ p ∈ L.map txs, Dp K H' (.ref p.1) (dS p.2) := fun H' sh p hp => by
        obtain ⟨x, hx, rfl⟩ := List.mem_map.mp hp
        exact pd_dp (.inl (.inl (sh _ _ (hLp x hx))))
      refine ⟨D, L.map txs, rfl, .inl (.inl (by rw [hD, hrf])), hLd _ (Same.refl _), by rw [List.length_map]; omega, fun sA L2 nsA hsub hall hnd hlen => ?_⟩
      obtain ⟨Lp, rfl, hLpm⟩ := pick_map hsub
      have s2 := s1.trans (same_upd (o := SetS P w sA (Lp.map txs)) nsA)
      have hsA := upd_same (H := H1) (a := sA) (o := SetS P w sA (Lp.map txs))
      have hLp2 : ∀ x ∈ L, upd H1 sA (SetS P w sA (Lp.map txs)) x.1 = some (.tup (x.2.map tx)) := fun x hx => same_upd nsA _ _ (hLp x hx)
      have hLd2 := hLd _ (same_upd (o := SetS P w sA (Lp.map txs)) nsA)
      generalize upd H1 sA (SetS P w sA (Lp.map txs)) = H2 at *
      refine ⟨sA, Lp.map txs, rfl, hsA, fun p hp => hLd2 p (hsub p hp), fun p bb hperm np => ?_⟩
      obtain ⟨kk, hkp, rfl⟩ := perm_map hperm rfl
      rw [srt_txs, List.map_map]
      have hcan : (srtP kk).map Prod.snd = bs.map Prod.snd := by
        rw [← hk.can, ← hL]
        refine M23.canon_uniq ?_ ?_ fun x => ?_
        · rw [((srtP_perm kk).map Prod.snd).nodup_iff, (hkp.map Prod.snd).nodup_iff]
          rw [List.map_map] at hnd
          have : (Prod.snd ∘ txs : AP → List Str) = M23.sS ∘ Prod.snd := rfl
          rw [this, ← List.map_map] at hnd
          exact List.Pairwise.of_map M23.sS (fun a b h e => h (by rw [e])) hnd
        · rw [List.pairwise_map]; exact srtP_sorted _
        · rw [((srtP_perm kk).map Prod.snd).mem_iff, (hkp.map Prod.snd).mem_iff]
          constructor
          · intro hx
            obtain ⟨y, hy, rfl⟩ := List.mem_map.mp hx
            exact List.mem_map_of_mem (hLpm y hy)
          · intro hx
            obtain ⟨y, hy, rfl⟩ := List.mem_map.mp hx
            have h1 := hall (txs y) (List.mem_map_of_mem hy)
            rw [List.map_map] at h1
            obtain ⟨z, hz, e⟩ := List.mem_map.mp h1
            exact List.mem_map.mpr ⟨z, hz, M23.sS_inj e⟩
      have hcm : ∀ x ∈ srtP kk, x ∈ L := fun x hx => hLpm x (hkp.mem_iff.mp ((srtP_perm kk).mem_iff.mp hx))
      have hS2 : ((fun p : Addr × List Str => V.ref p.1) ∘ txs) = fun b : AP => V.ref b.1 := rfl
      rw [hS2]
      have s3 := s2.trans (same_upd (o := .lst (rfs (srtP kk))) np)
      have hC := upd_same (H := H2) (a := p) (o := .lst (rfs (srtP kk)))
      have hcp : ∀ x ∈ srtP kk, upd H2 p (.lst (rfs (srtP kk))) x.1 = some (.tup (x.2.map tx)) := fun x hx => same_upd np _ _ (hLp2 x (hcm x hx))
      show gName 1 (.ref p) _ (upd H2 p (.lst (rfs (srtP kk)))) _
      generalize upd H2 p (.lst (rfs (srtP kk))) = HA at *
      generalize srtP kk = cs at *
      clear hLd hLd2 hLp hLp2 hcm hLz hLpm hperm hsub hall hnd hlen hkp hsA hD hrf hL hLl hLl2 s2
      have hkc : LKp (cs.map Prod.snd) := by rw [hcan]; exact hk
      have hcl : cs.length ≤ 40 := by have := hkc.few; rwa [List.length_map] at this
      refine ⟨by show 0 ≤ sizeLine; decide, fun F nF => ?_⟩
      have hFn := s3.free nF
      have sF := same_upd (o := .lst []) nF
      have hF0 := upd_same (H := HA) (a := F) (o := .lst [])
      have hcs : (rfs cs).length = cs.length := List.length_map _
      generalize upd HA F (.lst []) = HB at *
      refine ⟨_, rfl, p, rfl, ⟨_, .inl (.inl (sF _ _ hC))⟩, ?_⟩
      refine for_it (walk_list (xs := rfs cs)) (fun i σ H' => ∃ g3, σ = [some (.ref l), some (.ref p), none, some (.ref F), g3, none] ∧ Same HA H' ∧ H' F = some (.lst (rfs (cs.take i)))) ⟨none, rfl, sF, hF0⟩ (fun i σ H' _ pp => by obtain ⟨_, _, e, _⟩ := pp; exact .inl (.inl (e _ _ hC))) (fun i x σ H3 H4 hi pp yy => ?_) (fun σ H3 pp => ?_)
      · obtain ⟨g3, rfl, s4, hF⟩ := pp
        obtain ⟨rfl, yy⟩ := yy
        rw [show (rfs cs)[i]? = (cs[i]?).map fun b => V.ref b.1 from List.getElem?_map] at yy
        obtain ⟨b, hb, rfl⟩ := Option.map_eq_some_iff.mp yy
        have hbm := List.mem_of_getElem? hb
        refine ⟨_, rfl, p, rfl, ⟨_, .inl (.inl (s4 _ _ hC))⟩, fun D3 nD3 => ?_⟩
        refine lc_gen (walk_list (xs := rfs cs)) (Same H4) (fun j acc2 => acc2 = (List.replicate j false).map V.bl) (sz (by rw [hcs]; omega)) (fun i acc e => by rw [e, List.length_map, List.length_replicate]; exact Nat.le_refl _) rfl (same_upd nD3) (fun _ _ h => same_up h nD3) (fun _ h => .inl (.inl (h _ _ (s4 _ _ hC)))) (fun j x H5 H6 acc2 C2 N2 hj r5 hD5 ha2 y2 c2 n2 => ?_) (fun H5 xs r5 hD5 ha2 => ?_)
        · obtain ⟨rfl, yy2⟩ := y2
          rw [show (rfs cs)[j]? = (cs[j]?).map fun b => V.ref b.1 from List.getElem?_map] at yy2
          obtain ⟨d, hd, rfl⟩ := Option.map_eq_some_iff.mp yy2
          have hdm := List.mem_of_getElem? hd
          have r6 := s4.trans r5
          have hb6 := r6 _ _ (hcp b hbm)
          have hd6 := r6 _ _ (hcp d hdm)
          have db : Dp K H6 (.ref b.1) (M23.dP b.2) := pd_dp (.inl (.inl hb6))
          have de : Dp K H6 (.ref d.1) (M23.dP d.2) := pd_dp (.inl (.inl hd6))
          have wtz : ∀ x ∈ cs, SeqAt.shaped (M23.dP x.2) = true := fun x hx => by
            have h := hkc.at_ (List.mem_map_of_mem hx)
            exact (wt_dP (n := 100) (fun y hy => ⟨(h.ok y hy).2.2.2, (h.ok y hy).2.2.1⟩) (by have := h.len; omega)).shaped (by decide)
          have nxt : ∀ H', Same H6 H' → C2 (.bl false) H' := fun H' sh => c2 _ _ (r5.trans sh) (sh _ _ hD5) (by
            rw [ha2, List.replicate_succ', List.map_append]
            rfl)
          refine ⟨rfl, yes_te ?_⟩
          refine ⟨_, rfl, _, rfl, _, _, db, de, wtz b hbm, wtz d hdm, ?_⟩
          rw [eqv_dP]
          by_cases e : b.2 = d.2
          · rw [decide_eq_true e]
            exact ⟨_, rfl, iteF (nxt _ (Same.refl _))⟩
          · rw [decide_eq_false e]
            refine ⟨_, rfl, iteT ?_⟩
            have hem := hkc.anti _ (List.mem_map_of_mem hbm) _ (List.mem_map_of_mem hdm) e
            rcases hkc.one with h1 | ⟨sg, _, h1⟩
            · obtain ⟨t, ht, ht1, ht2⟩ := h1 _ (List.mem_map_of_mem hbm)
              obtain ⟨z, hz', hz1, hz2⟩ := h1 _ (List.mem_map_of_mem hdm)
              have hz42 : 42 ∉ z := fun m => by have := hz2 42 m; omega
              rw [ht] at hb6 hem
              rw [hz'] at hd6 hem
              refine ⟨_, rfl, _, rfl, b.1, d.1, t, z, rfl, .inl (.inl hb6), .inl (.inl hd6), ht1, hz1, hz42, ?_⟩
              rw [decide_eq_false fun hs => hem ((M34.emb_tP hz42).mpr hs)]
              exact nxt _ (Same.refl _)
            · have e1 : b.2 ∈ cs.map Prod.snd := List.mem_map_of_mem hbm
              have e2 : d.2 ∈ cs.map Prod.snd := List.mem_map_of_mem hdm
              rw [h1] at e1 e2
              exact absurd ((List.mem_singleton.mp e1).trans (List.mem_singleton.mp e2).symm) e
        · subst ha2
          refine ⟨D3, List.replicate _ false, rfl, .inl (.inl hD5), _, rfl, ?_⟩
          rw [any_id_rep]
          refine iteT ?_
          have hF5 := r5 _ _ hF
          refine ⟨_, rfl, .inl ⟨rfl, _, .inl (.inl hF5)⟩, _, rfl, F, _, _, rfl, rfl, hF5, by unfold rfs; rw [List.length_map, List.length_take]; omega, ?_⟩
          refine ⟨_, rfl, same_up (s4.trans r5) nF, ?_⟩
          rw [upd_same, List.take_add_one, hb]
          unfold rfs
          rw [List.map_append]
          rfl
      · obtain ⟨g3, rfl, s4, hF⟩ := pp
        rw [hcs, List.take_length] at hF
        refine ⟨_, rfl, q _ F cs (s3.trans s4) hFn hF (fun b hb => .inl (.inl (s4 _ _ (hcp b hb)))) hcan⟩
end
end Lw
namespace Lw
open PySem PySem.Spec PyProof.Rows L3
open L2 hiding del del_same del_ne
/-- a letter in a piece -/
theorem hold_in {y : List Nat} {c : Nat} (h : M23.Ok y) (hc : c ≠ 42) : M23.holds y [c] = decide (c ∈ y) := by
  rcases h with ⟨d, hd, rfl⟩ | ⟨l, h1, h2, h3, rfl⟩
  · unfold M23.holds
    rw [M23.isS_one hd, if_neg (by decide)]
    by_cases e : d = c
    · subst e; simp
    · rw [decide_eq_false (by simpa using e), decide_eq_false (by simpa using fun z => e z.symm)]
  · unfold M23.holds
    rw [M23.isS_star, if_pos rfl, M23.lt_one hc, M23.lt_star]
    by_cases e : c ∈ l
    · rw [decide_eq_true (List.mem_append_left _ e)]
      simpa using e
    · rw [decide_eq_false (by simp [e, hc])]
      simpa using e
/-- how far one is, or None -/
def encN : Option Nat → V
  | none => .non
  | some i => .int (i : Int)
def fits (Q : Nat → Bool) (i n : Nat) : List Nat := ((List.range n).map fun k => i + k).filter Q
theorem fits_succ (Q : Nat → Bool) (i n : Nat) : fits Q i (n + 1) = fits Q i n ++ if Q (i + n) = true then [i + n] else [] := by
  unfold fits
  rw [List.range_succ, List.map_append, List.filter_append]
  show _ ++ List.filter Q [i + n] = _
  rw [List.filter_cons, List.filter_nil]
theorem fits_len (Q : Nat → Bool) (i n : Nat) : (fits Q i n).length ≤ n := by
  unfold fits
  refine Nat.le_trans (List.length_filter_le _ _) ?_
  rw [List.length_map, List.length_range]
  exact Nat.le_refl _
theorem fits_lt {Q : Nat → Bool} {i n k : Nat} (h : k ∈ fits Q i n) : i ≤ k ∧ k < i + n ∧ Q k = true := by
  obtain ⟨h1, h2⟩ := List.mem_filter.mp h
  obtain ⟨j, hj, rfl⟩ := List.mem_map.mp h1
  have := List.mem_range.mp hj
  exact ⟨by omega, by omega, h2⟩
theorem fits_nil {Q : Nat → Bool} {i n : Nat} (h : fits Q i n = []) {j : Nat} (h1 : i ≤ j) (h2 : j < i + n) : Q j = false := by
  cases e : Q j with
  | false => rfl
  | true =>
    have : j ∈ fits Q i n := List.mem_filter.mpr ⟨List.mem_map.mpr ⟨j - i, List.mem_range.mpr (by omega), by omega⟩, e⟩
    rw [h] at this
    cases this
theorem fits_cons {Q : Nat → Bool} {i n k : Nat} {r : List Nat} (h : fits Q i n = k :: r) : i ≤ k ∧ k < i + n ∧ Q k = true ∧ ∀ j, i ≤ j → j < k → Q j = false := by
  obtain ⟨h1, h2, h3⟩ := fits_lt (Q := Q) (i := i) (n := n) (k := k) (by rw [h]; exact List.mem_cons_self)
  refine ⟨h1, h2, h3, fun j hj1 hj2 => ?_⟩
  cases e : Q j with
  | false => rfl
  | true =>
    have hm : j ∈ fits Q i n := List.mem_filter.mpr ⟨List.mem_map.mpr ⟨j - i, List.mem_range.mpr (by omega), by omega⟩, e⟩
    have hp : (fits Q i n).Pairwise (· < ·) := by
      unfold fits
      refine List.Pairwise.filter _ ?_
      rw [List.pairwise_map]
      exact List.Pairwise.imp (fun h => by omega) List.pairwise_lt_range
    rw [h] at hm hp
    rcases List.mem_cons.mp hm with rfl | hm
    · omega
    · have := (List.pairwise_cons.mp hp).1 j hm
      omega
/-- whether a piece holds a letter -/
def hkL (q : M23.Pd) (c k : Nat) : Bool := match q[k]? with
  | some y => M23.holds y [c]
  | none => false
theorem pb_fits_nil {q : M23.Pd} {c i : Nat} (h : fits (hkL q c) i (q.length - i) = []) : M23.pb q i [c] = none := by
  refine M23.pb_none _ i rfl fun j y hj hy => ?_
  have hl := (List.getElem?_eq_some_iff.mp hy).1
  have := fits_nil h hj (by omega)
  unfold hkL at this
  rw [hy] at this
  exact this
theorem pb_fits_cons {q : M23.Pd} {c i k : Nat} {r : List Nat} (h : fits (hkL q c) i (q.length - i) = k :: r) : ∃ y, q[k]? = some y ∧ M23.pb q i [c] = some (if M23.isS y then k else k + 1) := by
  obtain ⟨h1, h2, h3, h4⟩ := fits_cons h
  have hk' : k < q.length := by omega
  refine ⟨q[k], List.getElem?_eq_getElem hk', M23.pb_found (List.getElem?_eq_getElem hk') ?_ _ i rfl h1 fun j y hj1 hj2 hy => ?_⟩
  · unfold hkL at h3
    rw [List.getElem?_eq_getElem hk'] at h3
    exact h3
  · have := h4 j hj1 hj2
    unfold hkL at this
    rw [hy] at this
    exact this
section
variable {P : Program} {w : World} {K : PySem.W.Frag} {mg : Str → Option Value} {base : Heap}
def goneO (c : Nat) (bs : List AP) (os : List (Option Nat)) : List (Option Nat) := List.zipWith (fun b o => o.bind fun i => M23.pb b.2 i [c]) bs os
def spGone (K : PySem.W.Frag) : Sp := fun vs H Q _ => ∃ (l u : Addr) (bs : List AP) (os : List (Option Nat)) (c : Nat), vs = [.ref l, .ref u, tx [c]] ∧ SqL K H l (rfs bs) ∧ Prods K H bs ∧ (∀ b ∈ bs, LP1 b.2) ∧ bs.length ≤ 40 ∧ SqT K H u (os.map encN) ∧ os.length = bs.length ∧
  (∀ (n : Nat) (b : AP) (i : Nat), bs[n]? = some b → os[n]? = some (some i) → i ≤ b.2.length) ∧ c ≠ 42 ∧
  ∀ H' a, Same H H' → H a = none → H' a = some (.tup ((goneO c bs os).map encN)) → Q (.ref a) H'
theorem ok_law_gone (T : All K mg) : FnOk P w K mg base CX0 2 T.f_law_gone T.d_law_gone ["_law_products", "_law_spots", "_law_sign"] (spGone K) := by
  refine T.law_gone.F.ok sc_law_gone (fun vs H Q E h => ?_) (fun cdv A outer s H vs Q E hr h => ?_)
  · obtain ⟨l, u, bs, os, c, rfl, _⟩ := h
    rfl
  · obtain ⟨l, u, bs, os, c, rfl, hS, hP, hk, hz, hu, hl, hle, hc, q⟩ := h
    refine ⟨_, pss_cons (ps_set (i := 3) sc_law_gone.nd rfl (by first | exact Or.inl rfl | exact Or.inr rfl) (pe_lst pa_nil))
      (pss_cons (ps_for PassesOwn.never rfl (pi_zipS rfl T.b_zip (pa_cons (pv 0) (pa_cons (pv 1) pa_nil))) (pg_tup rfl (pgs_cons (pg_name (i := 4) sc_law_gone.nd rfl (by first | exact Or.inl rfl | exact Or.inr rfl)) (pgs_cons (pg_name (i := 5) sc_law_gone.nd rfl (by first | exact Or.inl rfl | exact Or.inr rfl)) pgs_nil)))
        (pss_cons (ps_set (i := 6) sc_law_gone.nd rfl (by first | exact Or.inl rfl | exact Or.inr rfl) pe_non)
      (pss_cons (ps_if (pt_cmpR op_notN (pv 5) pe_non (nomark _)) (pss_cons (ps_setLc (i := 7) (own := [("_law_at", 8)]) (g := gName 8) (by rfl) sc_law_gone.nd rfl rfl (sw_true rfl rfl rfl (by decide +kernel)) (pi_range2 rfl T.b_range (pa_cons (pv 5) (pa_cons (pe_callB call_len_seq (by rfl) T.b_len PySem.boot_len (pa_cons (pv 4) pa_nil)) pa_nil)))
          (blkOk_by (own := [("_law_at", 8)]) (N := ["_law_products", "_law_spots", "_law_sign", "_law_found", "_law_product", "_law_spot", "_law_after", "_law_fit", "_law_at"]) (sc := defScope s_law_gone) (by decide +kernel))
          (fun _ _ _ _ _ => pg_name (i := 8) sc_law_gone.nd rfl (by first | exact Or.inl rfl | exact Or.inr rfl)) (fun _ _ _ _ _ => (pts_one (pt_cmpR op_in_sign (pv 2) (pe_ix (ix_tupK (K := K) rfl) (pv 4) (pv 8) (fun _ _ => rfl)) (by rfl))))
          (fun _ _ _ _ _ => (pv 8)))
      (pss_one (ps_if (pt_cmpR (op_neD (u64 hr)) (pv 7) (pe_lst pa_nil) (nomark _)) (pss_one (ps_set (i := 6) sc_law_gone.nd rfl (by first | exact Or.inl rfl | exact Or.inr rfl) (pe_op op_add (pe_ix ix_list (pv 7) pe_int (fun _ _ => rfl)) (pe_callTy call_int1 (by rfl) T.b_int PyProof.Rows.boot_int (pa_cons (pe_not (pe_call (ok_law_is_star T) (hr.mono (by decide)) (by rfl) T.law_is_star.g T.law_is_star.F.kp T.law_is_star.b .nil pass0 (pa_cons (pe_ix ix_tup (pv 4) (pe_ix ix_list (pv 7) pe_int (fun _ _ => rfl)) (fun _ _ => rfl)) pa_nil))) pa_nil))))) pss_nil))) pss_nil)
      (pss_one (ps_expr (pe_bm PySem.F.plainAttrs_list PySem.F.slot_list_append PySem.F.type_list_append mt_append (pv 3) (pa_cons (pv 6) pa_nil)))))))
      (pss_one (ps_ret (pe_callTy call_tuple_of (by rfl) T.b_tuple (show bootBuiltins "tuple" = some (.type "tuple") by decide +kernel) (pa_cons (pv 3) pa_nil))))), ?_⟩
    dsimp only [cxOf]
    have hbl : (rfs bs).length = bs.length := List.length_map _
    obtain ⟨y1, ey1, hy1⟩ := sq_src (⟨l, rfl, .inl hS⟩ : Sq K H (.ref l) (rfs bs))
    obtain ⟨y2, ey2, hy2⟩ := sq_src (⟨u, rfl, .inr hu⟩ : Sq K H (.ref u) (os.map encN))
    have hgl : (goneO c bs os).length = bs.length := by unfold goneO; rw [List.length_zipWith, hl, Nat.min_self]
    refine seq_to ?_
    refine ⟨by show 0 ≤ sizeLine; decide, fun F nF => ?_⟩
    have sF := same_upd (o := .lst []) nF
    have hF := upd_same (H := H) (a := F) (o := .lst [])
    generalize upd H F (.lst []) = H0 at *
    dsimp only [gName]
    refine seq_to ?_
    refine ⟨_, rfl, _, rfl, y1, y2, rfs bs, os.map encN, by rw [← ey1, ← ey2], hy1 _ sF, hy2 _ sF, for_it (walk_zipS (K := K) (xs := rfs bs) (ys := os.map encN) (by rw [hbl, List.length_map, hl])) (fun i σ H' => ∃ g4 g5 g6 g7, σ = [some (.ref l), some (.ref u), some (tx [c]), some (.ref F), g4, g5, g6, g7, none] ∧ Same H H' ∧ H' F = some (.lst (((goneO c bs os).take i).map encN))) ⟨none, none, none, none, rfl, sF, hF⟩ (fun i σ H' _ pp => by obtain ⟨_, _, _, _, _, s, _⟩ := pp; exact ⟨hy1 _ s, hy2 _ s⟩) (fun i x σ H1 H2 hi pp yy => ?_) (fun σ H1 pp => ?_)⟩
    · obtain ⟨g4, g5, g6, g7, rfl, s1, hF1⟩ := pp
      obtain ⟨Tp, x1, x2, rfl, nT, rfl, e1, e2⟩ := yy
      have e1 : (rfs bs)[i]? = some x1 := e1
      have e2 : (os.map encN)[i]? = some x2 := e2
      rw [show (rfs bs)[i]? = (bs[i]?).map fun b => V.ref b.1 from List.getElem?_map] at e1
      obtain ⟨b, hb, rfl⟩ := Option.map_eq_some_iff.mp e1
      rw [List.getElem?_map] at e2
      obtain ⟨o, ho, rfl⟩ := Option.map_eq_some_iff.mp e2
      have hbm := List.mem_of_getElem? hb
      have hgi : (goneO c bs os)[i]? = some (o.bind fun i => M23.pb b.2 i [c]) := by
        unfold goneO
        rw [List.getElem?_zipWith, hb, ho]
      have s2 := same_up (o := .tup [.ref b.1, encN o]) s1 (s1.free nT)
      have hF2 : upd H1 Tp (.tup [.ref b.1, encN o]) F = _ := same_upd nT _ _ hF1
      refine ⟨Tp, _, rfl, .inl (.inl upd_same), rfl, _, _, rfl, _, _, rfl, rfl, ?_⟩
      generalize upd H1 Tp (.tup [.ref b.1, encN o]) = H2 at *
      have hb2 := sqT_same (hP b hbm) s2
      have hkb := hk b hbm
      dsimp only [gName]
      refine seq_to ?_
      dsimp only [gName, tAsg]
      refine seq_to ?_
      refine join (fun σ' H' => ∃ g7, σ' = [some (.ref l), some (.ref u), some (tx [c]), some (.ref F), some (.ref b.1), some (encN o), some (encN (o.bind fun i => M23.pb b.2 i [c])), g7, none] ∧ Same H H' ∧ H' F = some (.lst (((goneO c bs os).take i).map encN))) (fun N hN => ?_) (fun σ' H' pp => ?_)
      · refine ⟨_, rfl, rfl, _, rfl, ?_⟩
        cases o with
        | none =>
          refine ite_f (by simp [encN]) ?_
          exact hN _ _ ⟨_, rfl, s2, hF2⟩
        | some i0 =>
          have hi0 := hle i b i0 hb ho
          have hpl : (b.2.map tx).length = b.2.length := List.length_map _
          have hlen := hkb.len
          refine ite_t (by simp [encN]) ?_
          refine seq_to ?_
          refine ⟨_, rfl, _, rfl, b.1, _, rfl, .inr hb2, _, _, rfl, ⟨by omega, by omega, by omega, by omega⟩, fun D nD => ?_⟩
          have ez : (((b.2.map tx).length : Nat) : Int) - (i0 : Int) = ((b.2.length - i0 : Nat) : Int) := by rw [hpl]; omega
          rw [ez, Int.toNat_natCast]
          refine lc_gen walk_range (Same H2) (fun n acc => acc = nV (fits (hkL b.2 c) i0 n)) (sz (by omega)) (fun n acc e => by rw [e, nV_len]; exact fits_len _ _ _) rfl (same_upd nD) (fun _ _ h => same_up h nD) (fun _ _ => trivial) (fun n x H3 H4 acc C N2 hn rr hD ha yy c2 nn => ?_) (fun H3 xs rr hD ha => ?_)
          · obtain ⟨rfl, rfl⟩ := yy
            have hlt : i0 + n < b.2.length := by omega
            obtain ⟨y, hy⟩ : ∃ y, b.2[i0 + n]? = some y := ⟨_, List.getElem?_eq_getElem hlt⟩
            have hyo := hkb.ok y (List.mem_of_getElem? hy)
            have hqk : hkL b.2 c (i0 + n) = decide (c ∈ y) := by
              unfold hkL
              rw [hy]
              exact hold_in hyo.1 hc
            refine ⟨rfl, _, rfl, _, rfl, _, rfl, b.1, _, _, tx y, rfl, rfl, sqT_same hb2 rr, ?_, c, tS y, rfl, rfl, _, rfl, ?_⟩
            · show atI (b.2.map tx) ((i0 : Int) + (n : Int)) = _
              rw [show (i0 : Int) + (n : Int) = ((i0 + n : Nat) : Int) by omega]
              exact atI_nat (by rw [List.getElem?_map, hy]; rfl)
            rw [show (tS y).cps.toList = y by simp [tS], ← hqk]
            cases hq : hkL b.2 c (i0 + n) with
            | true =>
              refine iteT ?_
              refine ⟨_, rfl, c2 _ _ rr hD ?_⟩
              rw [ha, fits_succ, if_pos hq]
              unfold nV
              rw [List.map_append]
              show _ = _ ++ [V.int (((i0 + n : Nat)) : Int)]
              rw [show (((i0 + n : Nat)) : Int) = (i0 : Int) + (n : Int) by omega]
            | false =>
              refine iteF (nn _ rr hD ?_)
              rw [ha, fits_succ, if_neg (by rw [hq]; decide), List.append_nil]
          · subst ha
            have s3 := s2.trans rr
            have hF3 := rr _ _ hF2
            have hb3 := sqT_same hb2 rr
            have hgt : ∀ k ∈ fits (hkL b.2 c) i0 (b.2.length - i0), k < 1000000000 := fun k h => by have := (fits_lt h).2.1; omega
            have hfl := fits_len (hkL b.2 c) i0 (b.2.length - i0)
            dsimp only [gName]
            refine ⟨_, rfl, by show 0 ≤ sizeLine; decide, fun e ne => ?_⟩
            have se := same_upd (o := .lst []) ne
            have he := upd_same (H := H3) (a := e) (o := .lst [])
            have hD4 := se _ _ hD
            have hF4 := se _ _ hF3
            have hb4 := sqT_same hb3 se
            have s4 := s3.trans se
            generalize upd H3 e (.lst []) = H4 at *
            refine ⟨.list (dN (fits (hkL b.2 c) i0 (b.2.length - i0))), .list [], .lst (.inl (.inl hD4)) (dpAll_nV _), .lst (.inl (.inl he)) .nil, (Wt.nats (n := 10) hgt (by omega)).shaped (by decide), rfl, ?_⟩
            cases hf : fits (hkL b.2 c) i0 (b.2.length - i0) with
            | nil =>
              refine ⟨_, rfl, ite_f rfl ?_⟩
              have hno := pb_fits_nil hf
              have : (Option.bind (some i0) fun i => M23.pb b.2 i [c]) = none := hno
              rw [this] at hN
              exact hN _ _ ⟨_, rfl, s4, hF4⟩
            | cons k r =>
              rw [hf] at hD4
              refine ⟨_, rfl, ite_t rfl ?_⟩
              obtain ⟨y, hy, hpb⟩ := pb_fits_cons hf
              have hyo := hkb.ok y (List.mem_of_getElem? hy)
              have hk0 : atI (nV (k :: r)) 0 = some (V.int (k : Int)) := by show atI _ ((0 : Nat) : Int) = _; exact atI_nat rfl
              refine ⟨_, rfl, D, _, _, _, rfl, rfl, .inl (.inl hD4), hk0, _, rfl, _, rfl, D, _, _, _, rfl, rfl, .inl (.inl hD4), hk0, b.1, _, _, tx y, rfl, rfl, hb4, atI_nat (by rw [List.getElem?_map, hy]; rfl), y, rfl, hyo.2.1, hyo.2.2.1, _, rfl, .inr ⟨_, rfl, _, _, rfl, rfl, ?_⟩⟩
              have : (Option.bind (some i0) fun i => M23.pb b.2 i [c]) = some (if M23.isS y then k else k + 1) := hpb
              rw [this] at hN
              refine hN _ _ ⟨some (.ref D), ?_, s4, hF4⟩
              cases M23.isS y <;> rfl
      · obtain ⟨g7, rfl, s3, hF3⟩ := pp
        refine ⟨_, rfl, .inl ⟨rfl, _, .inl (.inl hF3)⟩, _, rfl, F, _, _, rfl, rfl, hF3, by rw [List.length_map, List.length_take, sizeLine_eq]; omega, ?_⟩
        refine ⟨_, _, _, _, rfl, same_up s3 nF, ?_⟩
        rw [upd_same, List.take_add_one, hgi, List.map_append]
        rfl
    · obtain ⟨g4, g5, g6, g7, rfl, s1, hF1⟩ := pp
      rw [hbl, ← hgl, List.take_length] at hF1
      refine ⟨_, rfl, F, _, rfl, .inl ⟨.inl (.inl hF1), fun l' nl => ?_⟩⟩
      exact q _ l' (same_up s1 (s1.free nl)) (s1.free nl) upd_same
end
end Lw
namespace L3
open PySem PySem.Spec PyProof.Rows L2
end L3
namespace L3
open PySem PySem.Spec PyProof.Rows L2
theorem cut_mid (l : List Nat) (i j : Nat) (h : i ≤ j) : cutS (tS l) (some (i : Int)) (some (j : Int)) = tS ((l.drop i).take (j - i)) := by
  unfold cutS
  rw [HT.sIx_nat, HT.sIx_nat, tS_len]
  show tS _ = _
  congr 1
  show (List.drop (min i l.length) l).take (min j l.length - min i l.length) = (l.drop i).take (j - i)
  by_cases h1 : i ≤ l.length
  · rw [Nat.min_eq_left h1]
    by_cases h2 : j ≤ l.length
    · rw [Nat.min_eq_left h2]
    · rw [Nat.min_eq_right (by omega), List.take_of_length_le (by rw [List.length_drop]; exact Nat.le_refl _), List.take_of_length_le (by rw [List.length_drop]; omega)]
  · rw [Nat.min_eq_right (by omega : l.length ≤ i), List.drop_of_length_le (Nat.le_refl _), List.drop_of_length_le (by omega)]
    simp
def rSlM : V → Option Int → Option Int → Hp → VK → Prop := fun x lo hi H Q => ∃ (l : List Nat) (i j : Nat), x = tx l ∧ l.length ≤ sizeLine ∧ i ≤ j ∧ lo = some (i : Int) ∧ hi = some (j : Int) ∧ Q (tx ((l.drop i).take (j - i))) H
theorem sl_txM {X : Cx} : SlR X rSlM := by
  intro pins s σ H x v vl vu lo hi sl Q I rx hs pl pu h
  obtain ⟨l, i, j, rfl, hz, hij, rfl, rfl, q⟩ := h
  refine sl_str pins s σ H _ v vl vu _ _ sl Q I rx hs pl pu ⟨_, rfl, by rw [tS_len]; exact hz, ?_⟩
  rw [cut_mid l i j hij]
  exact q
end L3
namespace Lw
open PySem PySem.Spec PyProof.Rows L3
open L2 hiding del del_same del_ne
theorem runI_one (q : M23.Pd) (i : Nat) (x : M23.Pc) : M23.runI q i [x] = M23.pb q i x := by
  show (M23.pb q i x).bind (fun j => M23.runI q j []) = _
  cases M23.pb q i x <;> rfl
theorem zip_self {α β : Type} (f : α → α → β) : ∀ l : List α, List.zipWith f l l = l.map fun x => f x x
  | [] => rfl
  | x :: l => by rw [List.zipWith_cons_cons, zip_self f l, List.map_cons]
theorem gone_run {bs : List AP} {t : List Nat} {j c : Nat} (h : t[j]? = some c) : goneO c bs (bs.map fun b => M23.runI b.2 0 (M23.tP (t.take j))) = bs.map fun b => M23.runI b.2 0 (M23.tP (t.take (j + 1))) := by
  unfold goneO
  rw [List.zipWith_map_right, zip_self]
  refine List.map_congr_left fun b _ => ?_
  rw [List.take_add_one, h]
  show _ = M23.runI b.2 0 (M23.tP (t.take j ++ [c]))
  rw [M23.tP_append, M23.runI_append]
  show _ = (M23.runI b.2 0 (M23.tP (t.take j))).bind fun k => M23.runI b.2 k [[c]]
  congr 1
  funext k
  rw [runI_one]
/-- a row of a list of lists -/
theorem dLR_row {K : PySem.W.Frag} {H : Hp} {r : Addr} {R : List (List Nat)} (h : Dp K H (.ref r) (dLR R)) : ∃ xs, SqL K H r xs ∧ xs.length = R.length ∧ ∀ (i : Nat) (l : List Nat), R[i]? = some l → ∃ a, xs[i]? = some (.ref a) ∧ SqL K H a (nV l) := by
  obtain ⟨a, xs, e, hS, hA⟩ := dp_list h
  cases e
  have hl : xs.length = R.length := by rw [dpAll_len hA, List.length_map]
  refine ⟨xs, hS, hl, fun i l hi => ?_⟩
  have hlt : i < xs.length := by rw [hl]; exact (List.getElem?_eq_some_iff.mp hi).1
  obtain ⟨d, hd, hx⟩ := dpAll_back hA (List.getElem?_eq_getElem hlt)
  rw [List.getElem?_map, hi] at hd
  cases hd
  obtain ⟨b, ys, e, hS2, hA2⟩ := dp_list hx
  rw [dpAll_nats hA2] at hS2
  exact ⟨b, by rw [List.getElem?_eq_getElem hlt, e], hS2⟩
section
variable {P : Program} {w : World} {K : PySem.W.Frag} {mg : Str → Option Value} {base : Heap}
def spLHas (K : PySem.W.Frag) : Sp := fun vs H Q _ => ∃ (l : Addr) (bs : List AP) (t : List Nat), vs = [.ref l, tx t] ∧ SqL K H l (rfs bs) ∧ Prods K H bs ∧ (∀ b ∈ bs, LP1 b.2) ∧ bs.length ≤ 40 ∧ (∀ c ∈ t, c ≠ 42) ∧
  ∀ H', Same H H' → Q (.bl (bs.any fun b => (M23.runI b.2 0 (M23.tP t)).isSome)) H'
theorem ok_law_has (T : All K mg) : FnOk P w K mg base CX0 4 T.f_law_has T.d_law_has ["_law_products", "_law_text"] (spLHas K) := by
  refine T.law_has.F.ok sc_law_has (fun vs H Q E h => ?_) (fun cdv A outer s H vs Q E hr h => ?_)
  · obtain ⟨l, bs, t, rfl, _⟩ := h
    rfl
  · obtain ⟨l, bs, t, rfl, hS, hP, hk, hz, ht, q⟩ := h
    refine ⟨_, pss_cons (ps_set (i := 2) sc_law_has.nd rfl (by first | exact Or.inl rfl | exact Or.inr rfl) (pe_callTy call_tuple_of (by rfl) T.b_tuple (show bootBuiltins "tuple" = some (.type "tuple") by decide +kernel) (pa_cons (pe_lc (own := [("_law_product", 3)]) (g := gName 3) (tt := tYes) rfl sc_law_has.nd (pi_list (pv 0))
          (blkOk_by (own := [("_law_product", 3)]) (N := ["_law_products", "_law_text", "_law_spots", "_law_product", "_law_sign", "_law_spot"]) (sc := defScope s_law_has) (by decide +kernel))
          (fun _ _ _ _ _ => pg_name (i := 3) sc_law_has.nd rfl (by first | exact Or.inl rfl | exact Or.inr rfl)) (fun _ _ _ _ _ => pts_nil)
          (fun _ _ _ _ _ => pe_int)) pa_nil)))
      (pss_cons (ps_for PassesOwn.never rfl (pi_str (pv 1)) (pg_name (i := 4) sc_law_has.nd rfl (by first | exact Or.inl rfl | exact Or.inr rfl))
        (pss_one (ps_set (i := 2) sc_law_has.nd rfl (by first | exact Or.inl rfl | exact Or.inr rfl) (pe_call (ok_law_gone T) (hr.mono (by decide)) (by rfl) T.law_gone.g T.law_gone.F.kp T.law_gone.b .nil pass0 (pa_cons (pv 0) (pa_cons (pv 2) (pa_cons (pv 4) pa_nil)))))))
      (pss_one (ps_ret (pe_callB (cr_any rfl) (by rfl) T.b_any PyProof.Rows.boot_any (pa_cons (pe_lc (own := [("_law_spot", 5)]) (g := gName 5) (tt := tYes) rfl sc_law_has.nd (pi_tup (pv 2))
          (blkOk_by (own := [("_law_spot", 5)]) (N := ["_law_products", "_law_text", "_law_spots", "_law_product", "_law_sign", "_law_spot"]) (sc := defScope s_law_has) (by decide +kernel))
          (fun _ _ _ _ _ => pg_name (i := 5) sc_law_has.nd rfl (by first | exact Or.inl rfl | exact Or.inr rfl)) (fun _ _ _ _ _ => pts_nil)
          (fun _ _ _ _ _ => (pe_cmpR op_notN (pv 5) pe_non (by rfl)))) pa_nil))))), ?_⟩
    dsimp only [cxOf]
    have hbl : (rfs bs).length = bs.length := List.length_map _
    refine seq_to ?_
    refine ⟨_, rfl, l, rfl, ⟨_, hS⟩, fun D nD => ?_⟩
    refine lc_gen (walk_list (xs := rfs bs)) (Same H) (fun n acc => acc = List.replicate n (.int 0)) (sz (by omega)) (fun n acc e => by rw [e, List.length_replicate]; exact Nat.le_refl _) rfl (same_upd nD) (fun _ _ h => same_up h nD) (fun _ h => sq_same hS h) (fun n x H1 H2 acc C N hn rr hD ha yy c nn => ?_) (fun H1 xs rr hD ha => ?_)
    · obtain ⟨rfl, _⟩ := yy
      refine ⟨rfl, yes_te (c _ _ rr hD ?_)⟩
      rw [ha, List.replicate_succ']
    · subst ha
      refine ⟨D, _, rfl, .inl ⟨.inl (.inl hD), fun u nu => ?_⟩⟩
      have hu : upd H1 u (.tup (List.replicate (rfs bs).length (.int 0))) u = some (.tup ((bs.map fun b => M23.runI b.2 0 (M23.tP (t.take 0))).map encN)) := by
        rw [upd_same, hbl, List.map_map]
        congr 2
        exact List.map_const'.symm
      have s1 := rr.trans (same_upd (o := .tup (List.replicate (rfs bs).length (.int 0))) nu)
      generalize upd H1 u (.tup (List.replicate (rfs bs).length (.int 0))) = H2 at *
      dsimp only [gName]
      refine seq_to ?_
      refine ⟨_, rfl, tS t, rfl, for_it walk_tx (fun j σ H' => ∃ u g4, σ = [some (.ref l), some (tx t), some (.ref u), none, g4, none] ∧ Same H H' ∧ H' u = some (.tup ((bs.map fun b => M23.runI b.2 0 (M23.tP (t.take j))).map encN))) ⟨u, none, rfl, s1, hu⟩ (fun _ _ _ _ _ => trivial) (fun j x σ H3 H4 hj pp yy => ?_) (fun σ H3 pp => ?_)⟩
      · obtain ⟨u, g4, rfl, s2, hu2⟩ := pp
        obtain ⟨rfl, ch, hch, rfl⟩ := yy
        dsimp only [gName]
        refine ⟨_, rfl, _, rfl, _, rfl, l, u, bs, _, ch, rfl, sq_same hS s2, hP.same s2, hk, hz, .inl (.inl hu2), by rw [List.length_map], fun n b i hb ho => ?_, ht ch (List.mem_of_getElem? hch), fun H5 a s5 na ha => ?_⟩
        · rw [List.getElem?_map, hb] at ho
          exact M23.runI_le (Nat.zero_le _) (Option.some.inj ho)
        · rw [gone_run hch] at ha
          exact ⟨a, _, rfl, s2.trans s5, ha⟩
      · obtain ⟨u, g4, rfl, s2, hu2⟩ := pp
        rw [List.take_length] at hu2
        refine ⟨_, rfl, u, rfl, ⟨_, .inl (.inl hu2)⟩, fun D nD => ?_⟩
        refine lc_gen (walk_tup (xs := (bs.map fun b => M23.runI b.2 0 (M23.tP t)).map encN)) (Same H3) (fun n acc => acc = (((bs.take n).map fun b => (M23.runI b.2 0 (M23.tP t)).isSome)).map V.bl) (by rw [List.length_map, List.length_map]; exact sz (by omega)) (fun n acc e => by rw [e, List.length_map, List.length_map, List.length_take]; omega) rfl (same_upd nD) (fun _ _ h => same_up h nD) (fun _ h => .inl (.inl (h _ _ hu2))) (fun n x H4 H5 acc C N hn rr hD ha yy c nn => ?_) (fun H4 xs rr hD ha => ?_)
        · obtain ⟨rfl, yy⟩ := yy
          rw [List.getElem?_map, List.getElem?_map] at yy
          obtain ⟨o, ho, rfl⟩ := Option.map_eq_some_iff.mp yy
          obtain ⟨b, hb, rfl⟩ := Option.map_eq_some_iff.mp ho
          refine ⟨rfl, yes_te ⟨_, rfl, rfl, ?_⟩⟩
          refine c _ _ rr hD ?_
          rw [ha, List.take_add_one, hb, List.map_append, List.map_append]
          congr 1
          show [V.bl (!decide (encN (M23.runI b.2 0 (M23.tP t)) = V.non))] = [V.bl (M23.runI b.2 0 (M23.tP t)).isSome]
          generalize M23.runI b.2 0 (M23.tP t) = o
          cases o <;> simp [encN]
        · subst ha
          rw [List.length_map, List.length_map, List.take_length] at hD
          refine ⟨D, _, rfl, .inl (.inl hD), ?_⟩
          have e : ((bs.map fun b => (M23.runI b.2 0 (M23.tP t)).isSome).any id) = bs.any fun b => (M23.runI b.2 0 (M23.tP t)).isSome := by
            rw [List.any_map]
            rfl
          rw [e]
          exact q _ (s2.trans rr)
def spLPart : Sp := fun vs H Q _ => ∃ t w : List Nat, vs = [tx t, tx w] ∧ t.length ≤ 1000 ∧ w.length ≤ 1000 ∧ Q (.bl (M34.isP t w)) H
theorem ok_law_is_part (T : All K mg) : FnOk P w K mg base CX0 1 T.f_law_is_part T.d_law_is_part ["_law_text", "_law_whole"] spLPart := by
  refine T.law_is_part.F.ok sc_law_is_part (fun vs H Q E h => ?_) (fun cdv A outer s H vs Q E hr h => ?_)
  · obtain ⟨t, w, rfl, _⟩ := h
    rfl
  · obtain ⟨t, w', rfl, ht, hw, q⟩ := h
    refine ⟨_, pss_cons (ps_set (i := 2) sc_law_is_part.nd rfl (by first | exact Or.inl rfl | exact Or.inr rfl) pe_int)
      (pss_cons (ps_for PassesOwn.never rfl (pi_str (pv 1)) (pg_name (i := 3) sc_law_is_part.nd rfl (by first | exact Or.inl rfl | exact Or.inr rfl))
        (pss_one (ps_aug (i := 2) sc_law_is_part.nd rfl (by first | exact Or.inl rfl | exact Or.inr rfl) (pe_callTy call_int1 (by rfl) T.b_int PyProof.Rows.boot_int (pa_cons (pe_cmpR op_eq (pe_slice sl_txM (pv 0) (po_some (pv 2)) (po_some (pe_op op_add (pv 2) pe_int))) (pv 3) (by rfl)) pa_nil)) ip_add)))
      (pss_one (ps_ret (pe_cmpR op_eq (pv 2) (pe_callB call_lenT (by rfl) T.b_len PySem.boot_len (pa_cons (pv 0) pa_nil)) (by rfl))))), ?_⟩
    try dsimp only [cxOf]
    refine seq_to ?_
    dsimp only [gName, tAsg]
    refine seq_to ?_
    refine ⟨_, rfl, tS w', rfl, for_it walk_tx (fun j σ H' => ∃ g3, σ = [some (tx t), some (tx w'), some (.int ((M34.pas t (w'.take j) : Nat) : Int)), g3] ∧ H' = H) ⟨none, rfl, rfl⟩ (fun _ _ _ _ _ => trivial) (fun j x σ H3 H4 hj pp yy => ?_) (fun σ H3 pp => ?_)⟩
    · obtain ⟨g3, rfl, rfl⟩ := pp
      obtain ⟨rfl, c, hc, rfl⟩ := yy
      have hle := M34.pas_le t (w'.take j)
      have hnext : M34.pas t (w'.take (j + 1)) = M34.adv t (M34.pas t (w'.take j)) c := by
        rw [List.take_add_one, hc]
        show M34.pas t (w'.take j ++ [c]) = _
        unfold M34.pas
        rw [List.foldl_append]
        rfl
      rw [hnext]
      generalize M34.pas t (w'.take j) = n at *
      refine ⟨_, rfl, _, rfl, _, rfl, _, rfl, _, rfl, _, _, rfl, rfl, _, rfl, t, n, n + 1, rfl, sz (by omega), by omega, rfl, rfl, _, rfl, rfl, .inr ⟨_, rfl, ?_⟩⟩
      have e : decide (tx ((t.drop n).take (n + 1 - n)) = tx [c]) = decide (t[n]? = some c) := by
        have e1 : (t.drop n).take (n + 1 - n) = [c] ↔ t[n]? = some c := by
          rw [show n + 1 - n = 1 by omega]
          cases hn : t[n]? with
          | none => rw [List.drop_of_length_le (List.getElem?_eq_none_iff.mp hn)]; simp
          | some d =>
            obtain ⟨hlt, e⟩ := List.getElem?_eq_some_iff.mp hn
            rw [List.drop_eq_getElem_cons hlt, List.take_succ_cons, List.take_zero, e]
            simp
        by_cases h : t[n]? = some c
        · rw [decide_eq_true h, e1.mpr h]
          exact decide_eq_true rfl
        · rw [decide_eq_false h]
          exact decide_eq_false fun z => h (e1.mp (tx_inj z))
      have e2 : (if decide (tx ((t.drop n).take (n + 1 - n)) = tx [c]) = true then (1 : Int) else 0) + 0 = (if t[n]? = some c then (1 : Int) else 0) := by
        rw [e, Int.add_zero]
        by_cases h : t[n]? = some c
        · rw [if_pos h, if_pos (decide_eq_true h)]
        · rw [if_neg h, if_neg (by rw [decide_eq_false h]; decide)]
      rw [Int.add_zero] at e2
      rw [e2]
      refine ⟨_, _, rfl, rfl, some (tx [c]), ?_, rfl⟩
      unfold M34.adv
      by_cases h : t[n]? = some c
      · rw [if_pos h, if_pos h]
        rfl
      · rw [if_neg h, if_neg h]
        rfl
    · obtain ⟨g3, rfl, rfl⟩ := pp
      rw [List.take_length]
      have hle := M34.pas_le t w'
      refine ⟨_, rfl, _, rfl, t, rfl, sz (by omega), rfl, ?_⟩
      have e : decide (V.int ((M34.pas t w' : Nat) : Int) = V.int (t.length : Int)) = M34.isP t w' := by
        unfold M34.isP
        by_cases h : M34.pas t w' = t.length
        · rw [h, decide_eq_true rfl, decide_eq_true rfl]
        · rw [decide_eq_false h]
          exact decide_eq_false fun z => h (by have := V.int.inj z; omega)
      rw [e]
      exact q
def spLTak (K : PySem.W.Frag) : Sp := fun vs H Q _ => ∃ (r k : Addr) (sg t : List Nat) (R : List (List Nat)) (kk : List Bool), vs = [tx sg, .ref r, .ref k, tx t] ∧ Dp K H (.ref r) (dLR R) ∧ SqL K H k (kk.map V.bl) ∧ M14.Sht sg.length R kk ∧ (∀ c ∈ t, c ∈ sg) ∧ sg.length ≤ 3 ∧ Q (.bl (M34.tak sg R kk t)) H
theorem ok_law_is_taken (T : All K mg) : FnOk P w K mg base CX0 1 T.f_law_is_taken T.d_law_is_taken ["_law_signs", "_law_rows_here", "_law_kinds_here", "_law_text"] (spLTak K) := by
  refine T.law_is_taken.F.ok sc_law_is_taken (fun vs H Q E h => ?_) (fun cdv A outer s H vs Q E hr h => ?_)
  · obtain ⟨r, k, sg, t, R, kk, rfl, _⟩ := h
    rfl
  · obtain ⟨r, k, sg, t, R, kk, rfl, hR, hK, hG, ht, hz, q⟩ := h
    refine ⟨_, pss_cons (ps_set (i := 4) sc_law_is_taken.nd rfl (by first | exact Or.inl rfl | exact Or.inr rfl) pe_int)
      (pss_cons (ps_for PassesOwn.never rfl (pi_str (pv 3)) (pg_name (i := 5) sc_law_is_taken.nd rfl (by first | exact Or.inl rfl | exact Or.inr rfl))
        (pss_one (ps_set (i := 4) sc_law_is_taken.nd rfl (by first | exact Or.inl rfl | exact Or.inr rfl) (pe_ix ix_list (pe_ix ix_list (pv 1) (pv 4) (fun _ _ => rfl)) (pe_bm PySem.F.plainAttrs_str PySem.F.slot_str_index PySem.F.type_str_index mt_indexT (pv 0) (pa_cons (pv 5) pa_nil)) (fun _ _ => rfl)))))
      (pss_one (ps_ret (pe_ix ix_list (pv 2) (pv 4) (fun _ _ => rfl))))), ?_⟩
    dsimp only [cxOf]
    refine seq_to ?_
    dsimp only [gName, tAsg]
    refine seq_to ?_
    have hle : ∀ j, M14.led sg R 0 (t.take j) < R.length := fun j => M14.led_lt hG hG.ne fun c hc => ht c (List.mem_of_mem_take hc)
    refine ⟨_, rfl, tS t, rfl, for_it walk_tx (fun j σ H' => ∃ g5, σ = [some (tx sg), some (.ref r), some (.ref k), some (tx t), some (.int ((M14.led sg R 0 (t.take j) : Nat) : Int)), g5] ∧ H' = H) ⟨none, rfl, rfl⟩ (fun _ _ _ _ _ => trivial) (fun j x σ H3 H4 hj pp yy => ?_) (fun σ H3 pp => ?_)⟩
    · obtain ⟨g5, rfl, rfl⟩ := pp
      obtain ⟨rfl, c, hc, rfl⟩ := yy
      have hcm := ht c (List.mem_of_getElem? hc)
      obtain ⟨g, hg, hgl⟩ := M14.led_step hG (hle j) hcm
      have hrow := M14.row_at (hle j)
      have hnext : M14.led sg R 0 (t.take (j + 1)) = g := by
        rw [List.take_add_one, hc]
        show M14.led sg R 0 (t.take j ++ [c]) = g
        rw [M14.led_snoc, List.getD_eq_getElem?_getD, hg]
        rfl
      obtain ⟨xs, hS, hl, hrows⟩ := dLR_row hR
      obtain ⟨ra, hra, hrs⟩ := hrows _ _ hrow
      refine ⟨_, rfl, _, rfl, r, xs, _, .ref ra, rfl, rfl, hS, atI_nat hra, _, rfl, rfl, _, rfl, sg, c, rfl, rfl, hcm, ra, _, _, .int (g : Int), rfl, rfl, hrs, atI_nat (by unfold nV; rw [List.getElem?_map, hg]; rfl), ?_⟩
      exact ⟨_, by rw [hnext]; rfl, rfl⟩
    · obtain ⟨g5, rfl, rfl⟩ := pp
      rw [List.take_length]
      have hl := hle t.length
      rw [List.take_length] at hl
      refine ⟨_, rfl, _, rfl, k, _, _, _, rfl, rfl, hK, atI_nat (v := .bl (M34.tak sg R kk t)) ?_, q⟩
      rw [List.getElem?_map]
      unfold M34.tak M14.kAt
      rw [List.getD_eq_getElem?_getD, List.getElem?_eq_getElem (by rw [hG.kin]; exact hl)]
      rfl
end
end Lw
namespace M34
open M14
section
variable (sg : List Nat) (R : List (List Nat)) (k : List Bool) (t : List Nat)
def stepsP (x : Nat × Nat) : List (Nat × Nat) := (sg.zip (row R x.1)).map fun cg => (cg.2, adv t x.2 cg.1)
def addP (l : List (Nat × Nat)) (x : Nat × Nat) : List (Nat × Nat) := if x ∈ l then l else l ++ [x]
def Rch (x : Nat × Nat) : Prop := ∃ w, (∀ c ∈ w, c ∈ sg) ∧ (led sg R 0 w, pas t w) = x
def Bad (x : Nat × Nat) : Prop := kAt k x.1 = true ∧ x.2 < t.length
structure Bfs (line : List (Nat × Nat)) (at_ : Nat) : Prop where
  nd : line.Nodup
  rc : ∀ x ∈ line, Rch sg R t x
  h0 : (0, 0) ∈ line
  cl : ∀ (j : Nat) x, j < at_ → line[j]? = some x → (∀ y ∈ stepsP sg R t x, y ∈ line) ∧ ¬ Bad k t x
variable {sg R k t}
theorem addP_pre (l : List (Nat × Nat)) (x : Nat × Nat) : l <+: addP l x := by
  unfold addP
  split
  · exact List.prefix_refl _
  · exact List.prefix_append _ _
theorem addP_mem {l : List (Nat × Nat)} {x y : Nat × Nat} : y ∈ addP l x ↔ y ∈ l ∨ y = x := by
  unfold addP
  split
  · rename_i h
    constructor
    · exact .inl
    · rintro (h2 | rfl)
      · exact h2
      · exact h
  · simp
theorem addP_nd {l : List (Nat × Nat)} {x : Nat × Nat} (h : l.Nodup) : (addP l x).Nodup := by
  unfold addP
  split
  · exact h
  · rename_i hx
    rw [List.nodup_append]
    exact ⟨h, by simp, fun a ha b hb e => hx (by rw [List.mem_singleton.mp hb] at e; rw [← e]; exact ha)⟩
theorem foldP_pre : ∀ (s l : List (Nat × Nat)), l <+: s.foldl addP l
  | [], l => List.prefix_refl _
  | x :: s, l => (addP_pre l x).trans (foldP_pre s _)
theorem foldP_mem {y : Nat × Nat} : ∀ {s l : List (Nat × Nat)}, y ∈ s.foldl addP l ↔ y ∈ l ∨ y ∈ s
  | [], l => by simp
  | x :: s, l => by
    rw [List.foldl_cons, foldP_mem, addP_mem, List.mem_cons, or_assoc]
theorem foldP_nd : ∀ {s l : List (Nat × Nat)}, l.Nodup → (s.foldl addP l).Nodup
  | [], _, h => h
  | x :: s, l, h => foldP_nd (s := s) (addP_nd h)
theorem bfs0 : Bfs sg R k t [(0, 0)] 0 := ⟨by simp, fun x hx => by rw [List.mem_singleton.mp hx]; exact ⟨[], (fun c hc => by cases hc), rfl⟩, List.mem_cons_self, fun j x h => by omega⟩
theorem pas_snoc (t w : List Nat) (c : Nat) : pas t (w ++ [c]) = adv t (pas t w) c := by unfold pas; rw [List.foldl_append]; rfl
theorem steps_rch (hn : sg.Nodup) {x y : Nat × Nat} (h : Rch sg R t x) (hy : y ∈ stepsP sg R t x) : Rch sg R t y := by
  obtain ⟨w, hw, rfl⟩ := h
  obtain ⟨⟨c, g⟩, hcg, rfl⟩ := List.mem_map.mp hy
  obtain ⟨j, hj⟩ := List.getElem?_of_mem hcg
  rw [List.getElem?_zip_eq_some] at hj
  have hc : c ∈ sg := List.mem_of_getElem? hj.1
  refine ⟨w ++ [c], fun d hd => ?_, ?_⟩
  · rcases List.mem_append.mp hd with hd | hd
    · exact hw d hd
    · rw [List.mem_singleton.mp hd]; exact hc
  · rw [led_snoc, pas_snoc, idx_at hn hj.1, List.getD_eq_getElem?_getD, hj.2]
    rfl
theorem Bfs.step {line : List (Nat × Nat)} {n : Nat} {x : Nat × Nat} (hn : sg.Nodup) (h : Bfs sg R k t line n) (hx : line[n]? = some x) (hb : ¬ Bad k t x) : Bfs sg R k t ((stepsP sg R t x).foldl addP line) (n + 1) := by
  have hpre := foldP_pre (stepsP sg R t x) line
  refine ⟨foldP_nd h.nd, fun y hy => ?_, foldP_mem.mpr (.inl h.h0), fun j y hj hy => ?_⟩
  · rcases foldP_mem.mp hy with hy | hy
    · exact h.rc y hy
    · exact steps_rch hn (h.rc x (List.mem_of_getElem? hx)) hy
  · have hlt : j < line.length := by have := (List.getElem?_eq_some_iff.mp hx).1; omega
    obtain ⟨z, hz⟩ := hpre
    rw [← hz, List.getElem?_append_left hlt] at hy
    by_cases e : j = n
    · subst e
      rw [hx] at hy
      cases hy
      exact ⟨fun y hy => foldP_mem.mpr (.inr hy), hb⟩
    · obtain ⟨a, b⟩ := h.cl j y (by omega) hy
      exact ⟨fun w hw => foldP_mem.mpr (.inl (a w hw)), b⟩
theorem Bfs.all {line : List (Nat × Nat)} {n : Nat} (hG : Sht sg.length R k) (h : Bfs sg R k t line n) (he : line.length ≤ n) : ∀ w, (∀ c ∈ w, c ∈ sg) → (led sg R 0 w, pas t w) ∈ line := by
  refine snoc_ind (P := fun w => (∀ c ∈ w, c ∈ sg) → (led sg R 0 w, pas t w) ∈ line) (fun _ => h.h0) fun w c ih hw => ?_
  have hw' : ∀ d ∈ w, d ∈ sg := fun d hd => hw d (List.mem_append_left _ hd)
  have hc : c ∈ sg := hw c (List.mem_append_right _ List.mem_cons_self)
  obtain ⟨j, hj⟩ := List.getElem?_of_mem (ih hw')
  have hjl := (List.getElem?_eq_some_iff.mp hj).1
  refine (h.cl j _ (by omega) hj).1 _ ?_
  obtain ⟨g, hg, _⟩ := led_step hG (led_lt hG hG.ne hw') hc
  refine List.mem_map.mpr ⟨(c, g), ?_, ?_⟩
  · refine List.mem_of_getElem? (i := sg.idxOf c) ?_
    rw [List.getElem?_zip_eq_some]
    exact ⟨idx_get hc, hg⟩
  · rw [led_snoc, pas_snoc, List.getD_eq_getElem?_getD, hg]
    rfl
theorem Bfs.yes {line : List (Nat × Nat)} {n : Nat} (hG : Sht sg.length R k) (h : Bfs sg R k t line n) (he : line.length ≤ n) : sureT sg R k t := fun w hw hk => by
  obtain ⟨j, hj⟩ := List.getElem?_of_mem (h.all hG he w hw)
  have hjl := (List.getElem?_eq_some_iff.mp hj).1
  have hb := (h.cl j _ (by omega) hj).2
  have hle := pas_le t w
  refine isP_iff.mp ?_
  unfold isP
  refine decide_eq_true ?_
  by_cases z : pas t w < t.length
  · exact absurd ⟨hk, z⟩ hb
  · show pas t w = t.length
    omega
theorem bad_no {x : Nat × Nat} (h : Rch sg R t x) (hb : Bad k t x) : ¬ sureT sg R k t := fun s => by
  obtain ⟨w, hw, rfl⟩ := h
  have := isP_iff.mpr (s w hw hb.1)
  unfold isP at this
  have := of_decide_eq_true this
  have h2 : pas t w < t.length := hb.2
  omega
theorem rch_lt (hG : Sht sg.length R k) {x : Nat × Nat} (h : Rch sg R t x) : x.1 < R.length ∧ x.2 ≤ t.length := by
  obtain ⟨w, hw, rfl⟩ := h
  exact ⟨led_lt hG hG.ne hw, pas_le t w⟩
theorem rch_len {line : List (Nat × Nat)} (hG : Sht sg.length R k) (nd : line.Nodup) (rc : ∀ x ∈ line, Rch sg R t x) : line.length ≤ R.length * (t.length + 1) := by
  have := nodup_len (R.length * (t.length + 1)) (line.map fun x => x.1 * (t.length + 1) + x.2) ?_ ?_
  · rwa [List.length_map] at this
  · rw [List.Nodup, List.pairwise_map]
    refine List.Pairwise.imp_of_mem (R := fun a b => a ≠ b) (fun {a b} ha hb hne e => hne ?_) nd
    have h1 := (rch_lt hG (rc a ha)).2
    have h2 := (rch_lt hG (rc b hb)).2
    have e1 : a.1 = b.1 := by
      rcases Nat.lt_trichotomy a.1 b.1 with z | z | z
      · have := Nat.mul_le_mul_right (t.length + 1) z
        rw [Nat.succ_mul] at this
        omega
      · exact z
      · have := Nat.mul_le_mul_right (t.length + 1) z
        rw [Nat.succ_mul] at this
        omega
    have e2 : a.2 = b.2 := by rw [e1] at e; omega
    exact Prod.ext e1 e2
  · intro y hy
    obtain ⟨x, hx, rfl⟩ := List.mem_map.mp hy
    obtain ⟨h1, h2⟩ := rch_lt hG (rc x hx)
    have := Nat.mul_le_mul_right (t.length + 1) h1
    rw [Nat.succ_mul] at this
    omega
end
end M34
namespace Lw
open PySem PySem.Spec PyProof.Rows L3
open L2 hiding del del_same del_ne
theorem u65 {k : Nat} {A : Around} (hr : Room k A) : A.units + 65 < cLine := by have := hr.un; omega
theorem pow3 {i : Nat} (h : i ≤ 6) : 3 ^ i ≤ 729 := by
  have : 3 ^ i ≤ 3 ^ 6 := Nat.pow_le_pow_right (by decide) h
  have e : 3 ^ 6 = 729 := by decide
  omega
theorem lvl3 {sg : List Nat} (h : sg.length ≤ 3) {i : Nat} (hi : i ≤ 6) : (M34.lvl sg i).length ≤ 729 := by
  rw [M34.lvl_len]
  exact Nat.le_trans (Nat.pow_le_pow_left h i) (pow3 hi)
theorem texts3 {sg : List Nat} (h : sg.length ≤ 3) : ∀ {i : Nat}, i ≤ 6 → (M34.texts sg i).length ≤ 729 * (i + 1)
  | 0, _ => by show 1 ≤ 729; decide
  | i + 1, hi => by
    show (M34.texts sg i ++ M34.lvl sg (i + 1)).length ≤ _
    rw [List.length_append]
    have h1 := texts3 h (i := i) (by omega)
    have h2 := lvl3 h hi
    omega
theorem Prl.dp {K : PySem.W.Frag} {H : Hp} {xs : List V} {Fr : List (Nat × Nat)} (h : Prl K H xs Fr) : DpAll K H xs (Fr.map dP2) := dpAll_of (by rw [h.1, List.length_map]) fun i x d h1 h2 => by
  rw [List.getElem?_map] at h2
  obtain ⟨p, hp, rfl⟩ := Option.map_eq_some_iff.mp h2
  obtain ⟨t, rfl, hs⟩ := h.2 i x p h1 hp
  exact .tup hs (.cons (.int _) (.cons (.int _) .nil))
theorem eqv_P2 (a b : Nat × Nat) : PyData.eqv (dP2 a) (dP2 b) = decide (a = b) := by
  obtain ⟨a1, a2⟩ := a
  obtain ⟨b1, b2⟩ := b
  show (decide ((a1 : Int) = (b1 : Int)) && (decide ((a2 : Int) = (b2 : Int)) && true)) = _
  rw [Bool.and_true, Bool.eq_iff_iff]
  simp only [Bool.and_eq_true, decide_eq_true_eq, Prod.mk.injEq]
  omega
theorem any_P2 (l : List (Nat × Nat)) (y : Nat × Nat) : ((l.map dP2).any fun z => PyData.eqv z (dP2 y)) = decide (y ∈ l) := by
  rw [List.any_map, Bool.eq_iff_iff, List.any_eq_true, decide_eq_true_iff]
  constructor
  · rintro ⟨z, hz, e⟩
    have : PyData.eqv (dP2 z) (dP2 y) = true := e
    rw [eqv_P2, decide_eq_true_iff] at this
    rw [← this]
    exact hz
  · intro h
    refine ⟨y, h, ?_⟩
    show PyData.eqv (dP2 y) (dP2 y) = true
    rw [eqv_P2, decide_eq_true rfl]
theorem adv_int (t : List Nat) (n c : Nat) : (n : Int) + (if decide (tx ((t.drop n).take (n + 1 - n)) = tx [c]) = true then (1 : Int) else 0) = ((M34.adv t n c : Nat) : Int) := by
  have e1 : (t.drop n).take (n + 1 - n) = [c] ↔ t[n]? = some c := by
    rw [show n + 1 - n = 1 by omega]
    cases hn : t[n]? with
    | none => rw [List.drop_of_length_le (List.getElem?_eq_none_iff.mp hn)]; simp
    | some d =>
      obtain ⟨hlt, e⟩ := List.getElem?_eq_some_iff.mp hn
      rw [List.drop_eq_getElem_cons hlt, List.take_succ_cons, List.take_zero, e]
      simp
  unfold M34.adv
  by_cases h : t[n]? = some c
  · rw [if_pos h, e1.mpr h, if_pos (decide_eq_true rfl)]
    rfl
  · rw [if_neg h, if_neg (fun z => h (e1.mp (tx_inj (of_decide_eq_true z)))), Int.add_zero]
theorem wt_P2 {x : Nat × Nat} (h1 : x.1 < 1000) (h2 : x.2 < 1000) : Wt (dP2 x) (31 * 2) 1 := Wt.tuple (w := 30) (k := 0) (fun d hd => by
  simp only [List.mem_cons, List.not_mem_nil, or_false] at hd
  rcases hd with rfl | rfl
  · exact Wt.nat (by omega)
  · exact Wt.nat (by omega)) (by show 2 ≤ 2; decide)
section
variable {P : Program} {w : World} {K : PySem.W.Frag} {mg : Str → Option Value} {base : Heap}
def spLTexts (K : PySem.W.Frag) : Sp := fun vs H Q _ => ∃ (sg : List Nat) (m : Nat), vs = [tx sg, .int (m : Int)] ∧ sg.length ≤ 3 ∧ m ≤ 6 ∧ ∀ (H' : Hp) (p : Addr), Same H H' → H p = none → H' p = some (.lst ((M34.texts sg m).map tx)) → Q (.ref p) H'
theorem ok_law_texts (T : All K mg) : FnOk P w K mg base CX0 1 T.f_law_texts T.d_law_texts ["_law_signs", "_law_most"] (spLTexts K) := by
  refine T.law_texts.F.ok sc_law_texts (fun vs H Q E h => ?_) (fun cdv A outer s H vs Q E hr h => ?_)
  · obtain ⟨sg, m, rfl, _⟩ := h
    rfl
  · obtain ⟨sg, m, rfl, hsg, hm, q⟩ := h
    refine ⟨_, pss_cons (ps_par rfl sc_law_texts.nd (i := 2) (j := 3) rfl rfl (by decide) rfl rfl (pa_cons (pe_lst (pa_cons pe_str pa_nil)) (pa_cons (pe_lst (pa_cons pe_str pa_nil)) pa_nil)) (by rfl))
      (pss_cons (ps_for PassesOwn.never rfl (pi_range1 rfl T.b_range (pa_cons (pv 1) pa_nil)) (pg_name (i := 4) sc_law_texts.nd rfl (by first | exact Or.inl rfl | exact Or.inr rfl))
        (pss_cons (ps_set (i := 5) sc_law_texts.nd rfl (by first | exact Or.inl rfl | exact Or.inr rfl) (pe_lst pa_nil))
      (pss_cons (ps_for PassesOwn.never rfl (pi_list (pv 3)) (pg_name (i := 6) sc_law_texts.nd rfl (by first | exact Or.inl rfl | exact Or.inr rfl))
        (pss_one (ps_expr (pe_bm PySem.F.plainAttrs_list PySem.F.slot_list_extend PySem.F.type_list_extend mt_extend (pv 5) (pa_cons (pe_lc (own := [("_law_sign", 7)]) (g := gName 7) (tt := tYes) rfl sc_law_texts.nd (pi_str (pv 0))
          (blkOk_by (own := [("_law_sign", 7)]) (N := ["_law_signs", "_law_most", "_law_found", "_law_rows_here", "_law_turn", "_law_longer", "_law_text", "_law_sign"]) (sc := defScope s_law_texts) (by decide +kernel))
          (fun _ _ _ _ _ => pg_name (i := 7) sc_law_texts.nd rfl (by first | exact Or.inl rfl | exact Or.inr rfl)) (fun _ _ _ _ _ => pts_nil)
          (fun _ _ _ _ _ => (pe_op op_addT (pv 6) (pv 7)))) pa_nil)))))
      (pss_cons (ps_set (i := 3) sc_law_texts.nd rfl (by first | exact Or.inl rfl | exact Or.inr rfl) (pv 5))
      (pss_one (ps_expr (pe_bm PySem.F.plainAttrs_list PySem.F.slot_list_extend PySem.F.type_list_extend mt_extend (pv 2) (pa_cons (pv 3) pa_nil))))))))
      (pss_one (ps_ret (pv 2)))), ?_⟩
    try dsimp only [cxOf]
    refine seq_to ?_
    refine ⟨by show 1 ≤ sizeLine; decide, fun F nF => ⟨by show 1 ≤ sizeLine; decide, fun L nL => ⟨_, _, rfl, ?_⟩⟩⟩
    have nFL : F ≠ L := fun e => by rw [← e, upd_same] at nL; cases nL
    have nL0 : H L = none := by rw [upd_ne nFL.symm] at nL; exact nL
    have s1 : Same H (upd (upd H F (.lst [.str ""])) L (.lst [.str ""])) := same_up (same_upd nF) nL0
    refine seq_to ?_
    refine ⟨_, rfl, _, rfl, by omega, by omega, ?_⟩
    rw [show ((m : Int)).toNat = m by omega]
    refine for_it walk_range (fun i σ H' => ∃ (L : Addr) (x4 x5 x6 : Option V), σ = [some (tx sg), some (.int (m : Int)), some (.ref F), some (.ref L), x4, x5, x6, none] ∧ Same H H' ∧ H' F = some (.lst ((M34.texts sg i).map tx)) ∧ H' L = some (.lst ((M34.lvl sg i).map tx)) ∧ F ≠ L)
      ⟨L, none, none, none, rfl, s1, by rw [upd_ne nFL, upd_same]; rfl, upd_same, nFL⟩ (fun _ _ _ _ _ => trivial) (fun i x σ H1 H2 hi p y => ?_) (fun σ H1 p => ?_)
    · obtain ⟨L, x4, x5, x6, rfl, sm, hF, hL, nFL⟩ := p
      obtain ⟨rfl, rfl⟩ := y
      have hlv := lvl3 hsg (i := i) (by omega)
      have hlv1 := lvl3 hsg (i := i + 1) (by omega)
      have htx := texts3 hsg (i := i) (by omega)
      dsimp only [gName]
      refine seq_to ?_
      refine ⟨by show 0 ≤ sizeLine; decide, fun W nW => ?_⟩
      have nW0 := sm.free nW
      have nLW : L ≠ W := ne_of_none hL nW
      have nFW : F ≠ W := ne_of_none hF nW
      dsimp only [gName]
      refine seq_to ?_
      refine ⟨_, rfl, L, rfl, ⟨_, .inl (.inl (by rw [upd_ne nLW]; exact hL))⟩, for_it (walk_list (xs := (M34.lvl sg i).map tx)) (fun j σ H' => ∃ (x6 : Option V), σ = [some (tx sg), some (.int (m : Int)), some (.ref F), some (.ref L), some (.int (0 + (i : Int))), some (.ref W), x6, none] ∧ Same H H' ∧ H' F = some (.lst ((M34.texts sg i).map tx)) ∧ H' L = some (.lst ((M34.lvl sg i).map tx)) ∧ H' W = some (.lst ((((M34.lvl sg i).take j).flatMap fun t => sg.map fun c => t ++ [c]).map tx)))
        ⟨x6, rfl, same_up sm nW0, by rw [upd_ne nFW]; exact hF, by rw [upd_ne nLW]; exact hL, upd_same⟩ (fun j σ H' _ p => by obtain ⟨_, _, _, _, h, _⟩ := p; exact .inl (.inl h)) (fun j x σ H4 H5 hj p y => ?_) (fun σ H4 p => ?_)⟩
      · obtain ⟨x6, rfl, sm4, hF4, hL4, hW4⟩ := p
        obtain ⟨rfl, y⟩ := y
        rw [List.getElem?_map] at y
        obtain ⟨t, ht, rfl⟩ := Option.map_eq_some_iff.mp y
        obtain ⟨ht1, ht2⟩ := M34.lvl_mem.mp (List.mem_of_getElem? ht)
        rw [List.length_map] at hj
        refine ⟨_, rfl, .inl ⟨rfl, _, .inl (.inl hW4)⟩, _, rfl, tS sg, rfl, fun D nD => ?_⟩
        have nD0 := sm4.free nD
        refine lc_gen walk_tx (Same H5) (fun b acc => acc = ((sg.take b).map fun c => t ++ [c]).map tx) (sz (by omega)) (fun b acc e => by rw [e, List.length_map, List.length_map, List.length_take]; omega) rfl (same_upd nD) (fun _ _ h => same_up h nD) (fun _ _ => trivial) (fun b x H6 H7 acc C N hb rr hD hacc y c nn => ?_) (fun H6 ys rr hD hacc => ?_)
        · obtain ⟨rfl, ch, hch, rfl⟩ := y
          refine ⟨rfl, yes_te ⟨_, rfl, _, rfl, t, [ch], rfl, rfl, sz (by simp; omega), ?_⟩⟩
          refine c _ _ rr hD ?_
          rw [hacc, List.take_add_one, hch, List.map_append, List.map_append]
          rfl
        · subst hacc
          rw [List.take_length] at hD
          have hW6 := rr _ _ hW4
          have hlen : ((((M34.lvl sg i).take j).flatMap fun t => sg.map fun c => t ++ [c])).length = ((M34.lvl sg i).take j).length * sg.length := M34.flat_len _ _ _ (fun x _ => by rw [List.length_map])
          have hlen2 : ((M34.lvl sg i).take j).length * sg.length ≤ 729 * 3 := Nat.mul_le_mul (by rw [List.length_take]; omega) hsg
          refine ⟨W, D, _, _, rfl, rfl, hW6, hD, by rw [List.length_map, List.length_map, List.length_map, sizeLine_eq]; omega, ?_⟩
          refine ⟨_, rfl, same_up (sm4.trans rr) nW0, by rw [upd_ne nFW]; exact rr _ _ hF4, by rw [upd_ne nLW]; exact rr _ _ hL4, ?_⟩
          rw [upd_same, ← List.map_append, List.take_add_one, ht, List.flatMap_append]
          rw [show (some t).toList = [t] from rfl, List.flatMap_cons, List.flatMap_nil, List.append_nil]
      · obtain ⟨x6, rfl, sm4, hF4, hL4, hW4⟩ := p
        rw [List.length_map, List.take_length] at hW4
        dsimp only
        refine seq_to ?_
        refine ⟨_, rfl, ?_⟩
        refine ⟨_, rfl, .inl ⟨rfl, _, .inl (.inl hF4)⟩, _, rfl, F, W, _, _, rfl, rfl, hF4, hW4, ?_, ?_⟩
        · rw [List.length_map, List.length_map]
          show _ + (M34.lvl sg (i + 1)).length ≤ _
          rw [sizeLine_eq]
          omega
        refine ⟨W, _, _, _, rfl, same_up sm4 nF, ?_, by rw [upd_ne nFW.symm]; exact hW4, nFW⟩
        rw [upd_same, ← List.map_append]
        rfl
    · obtain ⟨L, x4, x5, x6, rfl, sm, hF, hL, nFL⟩ := p
      exact ⟨_, rfl, q _ F sm nF hF⟩
def spLLeast (K : PySem.W.Frag) : Sp := fun vs H Q _ => ∃ (r k : Addr) (sg : List Nat) (R : List (List Nat)) (kk : List Bool), vs = [tx sg, .ref r, .ref k] ∧ Dp K H (.ref r) (dLR R) ∧ SqL K H k (kk.map V.bl) ∧ M14.Sht sg.length R kk ∧ sg.length ≤ 3 ∧ FewM sg R.length ∧
  ∀ H' p, Same H H' → H p = none → H' p = some (.lst ((M34.leastL sg R kk).map tx)) → Q (.ref p) H'
theorem ok_law_least (T : All K mg) : FnOk P w K mg base CX0 3 T.f_law_least T.d_law_least ["_law_signs", "_law_rows_here", "_law_kinds_here"] (spLLeast K) := by
  refine T.law_least.F.ok sc_law_least (fun vs H Q E h => ?_) (fun cdv A outer s H vs Q E hr h => ?_)
  · obtain ⟨r, k, sg, R, kk, rfl, _⟩ := h
    rfl
  · obtain ⟨r, k, sg, R, kk, rfl, hR, hK, hG, hz, hf, q⟩ := h
    refine ⟨_, pss_cons (ps_set (i := 3) sc_law_least.nd rfl (by first | exact Or.inl rfl | exact Or.inr rfl) (pe_lst pa_nil))
      (pss_cons (ps_for PassesOwn.never rfl (pi_list (pe_call (ok_law_texts T) (hr.mono (by decide)) (by rfl) T.law_texts.g T.law_texts.F.kp T.law_texts.b .nil pass0 (pa_cons (pv 0) (pa_cons (pe_op op_sub (pe_callB call_len_seq (by rfl) T.b_len PySem.boot_len (pa_cons (pv 1) pa_nil)) pe_int) pa_nil)))) (pg_name (i := 4) sc_law_least.nd rfl (by first | exact Or.inl rfl | exact Or.inr rfl))
        (pss_one (ps_if (PW.pt (pw_and (pt_val (pe_call (ok_law_is_taken T) (hr.mono (by decide)) (by rfl) T.law_is_taken.g T.law_is_taken.F.kp T.law_is_taken.b .nil pass0 (pa_cons (pv 0) (pa_cons (pv 1) (pa_cons (pv 2) (pa_cons (pv 4) pa_nil)))))) (pw_and1 (pt_not (pt_val (pe_callB (cr_any rfl) (by rfl) T.b_any PyProof.Rows.boot_any (pa_cons (pe_lc (own := [("_law_one", 5)]) (g := gName 5) (tt := tYes) rfl sc_law_least.nd (pi_list (pv 3))
          (blkOk_by (own := [("_law_one", 5)]) (N := ["_law_signs", "_law_rows_here", "_law_kinds_here", "_law_found", "_law_text", "_law_one"]) (sc := defScope s_law_least) (by decide +kernel))
          (fun _ _ _ _ _ => pg_name (i := 5) sc_law_least.nd rfl (by first | exact Or.inl rfl | exact Or.inr rfl)) (fun _ _ _ _ _ => pts_nil)
          (fun _ _ _ _ _ => (pe_call (ok_law_is_part T) (hr.mono (by decide)) (by rfl) T.law_is_part.g T.law_is_part.F.kp T.law_is_part.b .nil pass0 (pa_cons (pv 5) (pa_cons (pv 4) pa_nil))))) pa_nil))))))) (pss_one (ps_expr (pe_bm PySem.F.plainAttrs_list PySem.F.slot_list_append PySem.F.type_list_append mt_append (pv 3) (pa_cons (pv 4) pa_nil)))) pss_nil)))
      (pss_one (ps_ret (pv 3)))), ?_⟩
    try dsimp only [cxOf]
    obtain ⟨xs, hS, hl, _⟩ := dLR_row hR
    have hne := hG.ne
    have h6 := hf.few
    refine seq_to ?_
    refine ⟨by show 0 ≤ sizeLine; decide, fun F nF => ?_⟩
    have sF := same_upd (o := .lst []) nF
    have hF := upd_same (H := H) (a := F) (o := .lst [])
    generalize upd H F (.lst []) = H0 at *
    dsimp only [gName]
    refine seq_to ?_
    refine ⟨_, rfl, _, rfl, r, xs, rfl, .inl (sq_same hS sF), _, _, rfl, rfl, ?_⟩
    refine ⟨sg, R.length - 1, congrArg (fun z => [tx sg, V.int z]) (by omega), hz, by omega, fun H1 L s1 nL hL => ?_⟩
    have htl : (M34.texts sg (R.length - 1)).length ≤ 200 := by
      have := hf.tx
      rw [← upto_texts, Nat.sub_add_cancel hne]
      exact this
    have htm : ∀ t ∈ M34.texts sg (R.length - 1), t.length ≤ 5 ∧ ∀ c ∈ t, c ∈ sg := fun t ht => by
      obtain ⟨a, b⟩ := M34.texts_mem.mp ht
      exact ⟨by omega, b⟩
    have nFL : F ≠ L := fun e => by rw [← e, hF] at nL; cases nL
    let fs : List (List Nat) → List (List Nat) := fun ts => ts.foldl (M34.stepL sg R kk) []
    have hq' : M34.leastL sg R kk = fs (M34.texts sg (R.length - 1)) := rfl
    rw [hq'] at q
    clear hq'
    generalize M34.texts sg (R.length - 1) = TT at *
    have hL0 : Same H H1 := sF.trans s1
    refine ⟨L, rfl, ⟨_, .inl (.inl hL)⟩, for_it (walk_list (xs := TT.map tx)) (fun j σ H' => ∃ (x4 : Option V), σ = [some (tx sg), some (.ref r), some (.ref k), some (.ref F), x4, none] ∧ Same H H' ∧ H' F = some (.lst ((fs (TT.take j)).map tx)) ∧ H' L = some (.lst (TT.map tx)))
      ⟨none, rfl, hL0, s1 _ _ hF, hL⟩ (fun j σ H' _ p => by obtain ⟨_, _, _, _, h⟩ := p; exact .inl (.inl h)) (fun j x σ H3 H4 hj p y => ?_) (fun σ H3 p => ?_)⟩
    · obtain ⟨x4, rfl, sm3, hF3, hL3⟩ := p
      obtain ⟨rfl, y⟩ := y
      rw [List.getElem?_map] at y
      obtain ⟨t, ht, rfl⟩ := Option.map_eq_some_iff.mp y
      obtain ⟨ht1, ht2⟩ := htm t (List.mem_of_getElem? ht)
      rw [List.length_map] at hj
      have hfs : fs (TT.take (j + 1)) = M34.stepL sg R kk (fs (TT.take j)) t := by
        show (TT.take (j + 1)).foldl _ _ = _
        rw [List.take_add_one, ht, List.foldl_append]
        rfl
      have hz0 : (fs (TT.take j)).length ≤ 200 := by
        have := foldL_len (sg := sg) (R := R) (k := kk) (TT.take j) []
        rw [List.length_take, List.length_nil] at this
        refine Nat.le_trans this ?_
        omega
      have ho0 : ∀ o ∈ fs (TT.take j), o.length ≤ 5 := fun o ho => by
        rcases M34.foldL_mem ho with ho | ⟨ho, _⟩
        · cases ho
        · exact (htm o (List.mem_of_mem_take ho)).1
      rw [hfs]
      generalize fs (TT.take j) = f0 at *
      refine ⟨_, rfl, _, rfl, _, rfl, _, rfl, r, k, sg, t, R, kk, rfl, Dp.same sm3 hR, sq_same hK sm3, hG, ht2, hz, _, rfl, ?_⟩
      cases htk : M34.tak sg R kk t with
      | false =>
        refine iteF (iteF ?_)
        refine ⟨_, rfl, sm3, ?_, hL3⟩
        rw [hF3]
        unfold M34.stepL
        rw [htk]
        rfl
      | true =>
        refine iteT ?_
        refine ⟨_, rfl, F, rfl, ⟨_, .inl (.inl hF3)⟩, fun D nD => ?_⟩
        refine lc_gen (walk_list (xs := f0.map tx)) (Same H4) (fun n acc => acc = ((f0.take n).map fun o => M34.isP o t).map V.bl) (by rw [List.length_map]; exact sz (by omega)) (fun n acc e => by rw [e, List.length_map, List.length_map, List.length_take]; omega) rfl (same_upd nD) (fun _ _ h => same_up h nD) (fun _ h => .inl (.inl (h _ _ hF3))) (fun n x H5 H6 acc C N hn rr hD ha y c nn => ?_) (fun H5 bs rr hD ha => ?_)
        · obtain ⟨rfl, y⟩ := y
          rw [List.getElem?_map] at y
          obtain ⟨o, ho, rfl⟩ := Option.map_eq_some_iff.mp y
          have hol := ho0 o (List.mem_of_getElem? ho)
          refine ⟨rfl, yes_te ⟨_, rfl, _, rfl, o, t, rfl, by omega, by omega, ?_⟩⟩
          refine c _ _ rr hD ?_
          rw [ha, List.take_add_one, ho, List.map_append, List.map_append]
          rfl
        · subst ha
          rw [List.length_map, List.take_length] at hD
          have hF5 := rr _ _ hF3
          refine ⟨D, f0.map fun o => M34.isP o t, rfl, .inl (.inl hD), _, rfl, ?_⟩
          have ean : ((f0.map fun o => M34.isP o t).any id) = f0.any fun o => M34.isP o t := by
            rw [List.any_map]
            rfl
          rw [ean]
          cases han : f0.any fun o => M34.isP o t with
          | true =>
            refine iteF ?_
            refine ⟨_, rfl, sm3.trans rr, ?_, rr _ _ hL3⟩
            rw [hF5]
            unfold M34.stepL
            rw [htk, han]
            rfl
          | false =>
            refine iteT ?_
            refine ⟨_, rfl, .inl ⟨rfl, _, .inl (.inl hF5)⟩, _, rfl, F, _, _, rfl, rfl, hF5, by rw [List.length_map, sizeLine_eq]; omega, ?_⟩
            refine ⟨_, rfl, same_up (sm3.trans rr) nF, ?_, by rw [upd_ne nFL.symm]; exact rr _ _ hL3⟩
            rw [upd_same]
            unfold M34.stepL
            rw [htk, han, show (if (true && !false) = true then f0 ++ [t] else f0) = f0 ++ [t] from rfl, List.map_append]
            rfl
    · obtain ⟨x4, rfl, sm3, hF3, hL3⟩ := p
      rw [List.length_map, List.take_length] at hF3
      exact ⟨_, rfl, q _ F sm3 nF hF3⟩
def spLSure (K : PySem.W.Frag) : Sp := fun vs H Q _ => ∃ (r k : Addr) (sg t : List Nat) (R : List (List Nat)) (kk : List Bool), vs = [tx sg, .ref r, .ref k, tx t] ∧ Dp K H (.ref r) (dLR R) ∧ SqL K H k (kk.map V.bl) ∧ M14.Sht sg.length R kk ∧ sg.Nodup ∧ sg.length ≤ 3 ∧ R.length ≤ 6 ∧ t.length ≤ 6 ∧
  (M34.sureT sg R kk t → ∀ H', Same H H' → Q (.bl true) H') ∧ (¬ M34.sureT sg R kk t → ∀ H', Same H H' → Q (.bl false) H')
theorem ok_law_is_sure (T : All K mg) : FnOk P w K mg base CX0 1 T.f_law_is_sure T.d_law_is_sure ["_law_signs", "_law_rows_here", "_law_kinds_here", "_law_text"] (spLSure K) := by
  refine T.law_is_sure.F.ok sc_law_is_sure (fun vs H Q E h => ?_) (fun cdv A outer s H vs Q E hr h => ?_)
  · obtain ⟨r, k, sg, t, R, kk, rfl, _⟩ := h
    rfl
  · obtain ⟨r, k, sg, t, R, kk, rfl, hR, hK, hG, hn, hz, h6, ht, qt, qf⟩ := h
    refine ⟨_, pss_cons (ps_par rfl sc_law_is_sure.nd (i := 4) (j := 5) rfl rfl (by decide) rfl rfl (pa_cons (pe_lst (pa_cons (pe_tup (pa_cons pe_int (pa_cons pe_int pa_nil))) pa_nil)) (pa_cons pe_int pa_nil)) (by rfl))
      (pss_cons (ps_while PassesOwn.never (pt_cmpR op_lt (pv 5) (pe_callB call_len_seq (by rfl) T.b_len PySem.boot_len (pa_cons (pv 4) pa_nil)) (nomark _))
        (pss_cons (ps_asg (pe_ix ix_list (pv 4) (pv 5) (fun _ _ => rfl)) (pg_tup rfl (pgs_cons (pg_name (i := 6) sc_law_is_sure.nd rfl (by first | exact Or.inl rfl | exact Or.inr rfl)) (pgs_cons (pg_name (i := 7) sc_law_is_sure.nd rfl (by first | exact Or.inl rfl | exact Or.inr rfl)) pgs_nil))))
      (pss_cons (ps_if (PW.pt (pw_and (pt_val (pe_ix ix_list (pv 2) (pv 6) (fun _ _ => rfl))) (pw_and1 (pt_cmpR op_lt (pv 7) (pe_callB call_lenT (by rfl) T.b_len PySem.boot_len (pa_cons (pv 3) pa_nil)) (nomark _))))) (pss_one (ps_ret pe_bl)) pss_nil)
      (pss_cons (ps_for PassesOwn.never rfl (pi_zipS rfl T.b_zip (pa_cons (pv 0) (pa_cons (pe_ix ix_list (pv 1) (pv 6) (fun _ _ => rfl)) pa_nil))) (pg_tup rfl (pgs_cons (pg_name (i := 8) sc_law_is_sure.nd rfl (by first | exact Or.inl rfl | exact Or.inr rfl)) (pgs_cons (pg_name (i := 9) sc_law_is_sure.nd rfl (by first | exact Or.inl rfl | exact Or.inr rfl)) pgs_nil)))
        (pss_cons (ps_set (i := 10) sc_law_is_sure.nd rfl (by first | exact Or.inl rfl | exact Or.inr rfl) (pe_tup (pa_cons (pv 9) (pa_cons (pe_op op_add (pv 7) (pe_callTy call_int1 (by rfl) T.b_int PyProof.Rows.boot_int (pa_cons (pe_cmpR op_eq (pe_slice sl_txM (pv 3) (po_some (pv 7)) (po_some (pe_op op_add (pv 7) pe_int))) (pv 8) (by rfl)) pa_nil))) pa_nil))))
      (pss_one (ps_if (pt_cmpR (op_notInD (u65 hr)) (pv 10) (pv 4) (by rfl)) (pss_one (ps_expr (pe_bm PySem.F.plainAttrs_list PySem.F.slot_list_append PySem.F.type_list_append mt_append (pv 4) (pa_cons (pv 10) pa_nil)))) pss_nil))))
      (pss_one (ps_aug (i := 5) sc_law_is_sure.nd rfl (by first | exact Or.inl rfl | exact Or.inr rfl) pe_int ip_add))))))
      (pss_one (ps_ret pe_bl))), ?_⟩
    try dsimp only [cxOf]
    obtain ⟨xr, hSr, hlr, hrows⟩ := dLR_row hR
    have hb42 : R.length * (t.length + 1) ≤ 6 * 7 := Nat.mul_le_mul h6 (by omega)
    refine seq_to ?_
    refine ⟨by show 2 ≤ sizeLine; decide, fun T0 nT0 => ⟨by show 1 ≤ sizeLine; decide, fun L nL => ⟨_, _, rfl, ?_⟩⟩⟩
    have sT := same_upd (o := .tup [.int 0, .int 0]) nT0
    have hT0 := upd_same (H := H) (a := T0) (o := .tup [.int 0, .int 0])
    generalize upd H T0 (.tup [.int 0, .int 0]) = H0 at *
    have sL := same_upd (o := .lst [.ref T0]) nL
    have nLH : H L = none := sT.free nL
    have hL := upd_same (H := H0) (a := L) (o := .lst [.ref T0])
    have hT1 := sL _ _ hT0
    generalize upd H0 L (.lst [.ref T0]) = H1 at *
    have s01 := sT.trans sL
    refine seq_to ?_
    refine while_n (fun n σ H' => ∃ (line : List (Nat × Nat)) (xs : List V) (g6 g7 g8 g9 g10 : Option V), σ = [some (tx sg), some (.ref r), some (.ref k), some (tx t), some (.ref L), some (.int (n : Int)), g6, g7, g8, g9, g10] ∧ Same H H' ∧ H' L = some (.lst xs) ∧ Prl K H' xs line ∧ M34.Bfs sg R kk t line n) 100
      ⟨[(0, 0)], [.ref T0], none, none, none, none, none, rfl, s01, hL, ⟨rfl, fun i x p h1 h2 => by
        match i, h1, h2 with
        | 0, h1, h2 => cases h1; cases h2; exact ⟨T0, rfl, .inl (.inl hT1)⟩
        | i + 1, h1, _ => cases h1⟩, M34.bfs0⟩ (fun n σ H2 p Kc kt kf => ?_)
    obtain ⟨line, xs, g6, g7, g8, g9, g10, rfl, s2, hL2, hP, hB⟩ := p
    have hxl := hP.1
    have hbl := M34.rch_len hG hB.nd hB.rc
    refine ⟨_, rfl, _, rfl, L, _, rfl, .inl (.inl (.inl hL2)), _, _, rfl, rfl, _, rfl, ?_⟩
    by_cases hlt : n < line.length
    · rw [decide_eq_true (by omega : (n : Int) < ((xs.length : Nat) : Int))]
      refine kt _ (by omega) ?_
      obtain ⟨x, hx⟩ : ∃ x, line[n]? = some x := ⟨_, List.getElem?_eq_getElem hlt⟩
      obtain ⟨v, hv⟩ : ∃ v, xs[n]? = some v := ⟨_, List.getElem?_eq_getElem (by omega)⟩
      obtain ⟨tp, rfl, htp⟩ := hP.2 n _ _ hv hx
      have hxr := hB.rc x (List.mem_of_getElem? hx)
      obtain ⟨hx1, hx2⟩ := M34.rch_lt hG hxr
      have hrow := M14.row_at hx1
      obtain ⟨ra, hra, hrs⟩ := hrows _ _ hrow
      have hrl := hG.len _ (M14.row_mem hx1)
      refine seq_to ?_
      refine ⟨_, rfl, _, rfl, L, xs, _, .ref tp, rfl, rfl, .inl (.inl hL2), atI_nat hv, tp, _, rfl, htp, rfl, _, _, rfl, _, _, rfl, rfl, ?_⟩
      dsimp only
      refine seq_to ?_
      have hka : atI (kk.map V.bl) (x.1 : Int) = some (.bl (M14.kAt kk x.1)) := by
        refine atI_nat ?_
        rw [List.getElem?_map]
        unfold M14.kAt
        rw [List.getD_eq_getElem?_getD, List.getElem?_eq_getElem (by rw [hG.kin]; exact hx1)]
        rfl
      by_cases hb : M34.Bad kk t x
      · refine ⟨_, rfl, _, rfl, k, _, _, _, rfl, rfl, sq_same hK s2, hka, _, rfl, ?_⟩
        rw [hb.1]
        refine iteT ⟨_, rfl, _, rfl, t, rfl, sz (by omega), _, _, rfl, rfl, _, rfl, ?_⟩
        have h2 := hb.2
        refine ite_t (decide_eq_true (by omega)) ?_
        exact qf (M34.bad_no hxr hb) _ s2
      · refine if_no (fun H' => H' = H2) (fun Q' hQ => ?_) (fun H3 e3 => ?_)
        · refine ⟨_, rfl, _, rfl, k, _, _, _, rfl, rfl, sq_same hK s2, hka, _, rfl, ?_⟩
          cases hkx : M14.kAt kk x.1 with
          | false => exact iteF (hQ _ rfl)
          | true =>
            refine iteT ⟨_, rfl, _, rfl, t, rfl, sz (by omega), _, _, rfl, rfl, _, rfl, ?_⟩
            have h2 : ¬ x.2 < t.length := fun z => hb ⟨hkx, z⟩
            rw [decide_eq_false (by omega)]
            exact hQ _ rfl
        · subst e3
          dsimp only [tNext]
          refine seq_to ?_
          obtain ⟨y1, ey1, hy1⟩ := tx_src (K := K) sg
          obtain ⟨y2, ey2, hy2⟩ := sq_src (⟨ra, rfl, .inl hrs⟩ : Sq K H (.ref ra) (nV (M14.row R x.1)))
          have ezip : (sg.map fun c => tx [c]).length = (nV (M14.row R x.1)).length := by rw [List.length_map, nV_len, hrl]
          have hsl : (M34.stepsP sg R t x).length = sg.length := by unfold M34.stepsP; rw [List.length_map, List.length_zip, hrl, Nat.min_self]
          refine ⟨_, rfl, _, rfl, _, rfl, r, xr, _, .ref ra, rfl, rfl, sq_same hSr s2, atI_nat hra, y1, y2, _, _, by rw [← ey1, ← ey2], hy1 _, hy2 _ s2, ?_⟩
          refine for_it (walk_zipS (K := K) ezip) (fun i σ H' => ∃ (xs : List V) (g8 g9 g10 : Option V), σ = [some (tx sg), some (.ref r), some (.ref k), some (tx t), some (.ref L), some (.int (n : Int)), some (.int (x.1 : Int)), some (.int (x.2 : Int)), g8, g9, g10] ∧ Same H H' ∧ H' L = some (.lst xs) ∧ Prl K H' xs (((M34.stepsP sg R t x).take i).foldl M34.addP line))
            ⟨xs, _, _, _, rfl, s2, hL2, hP⟩ (fun i σ H' _ p => by obtain ⟨_, _, _, _, _, s, _⟩ := p; exact ⟨hy1 _, hy2 _ s⟩) (fun i z σ H4 H5 hi p y => ?_) (fun σ H4 p => ?_)
          · obtain ⟨xs4, g8, g9, g10, rfl, s4, hL4, hP4⟩ := p
            obtain ⟨Tp, v1, v2, rfl, nT, rfl, e1, e2⟩ := y
            have e1 : (sg.map fun c => tx [c])[i]? = some v1 := e1
            rw [List.getElem?_map] at e1
            obtain ⟨c, hc, rfl⟩ := Option.map_eq_some_iff.mp e1
            obtain ⟨g, hg, rfl⟩ := nV_inv (show (nV (M14.row R x.1))[i]? = some v2 from e2)
            have hst : (M34.stepsP sg R t x)[i]? = some (g, M34.adv t x.2 c) := by
              unfold M34.stepsP
              have hz' : (sg.zip (M14.row R x.1))[i]? = some (c, g) := by rw [List.getElem?_zip_eq_some]; exact ⟨hc, hg⟩
              rw [List.getElem?_map, hz']
              rfl
            have hstep : ((M34.stepsP sg R t x).take (i + 1)).foldl M34.addP line = M34.addP (((M34.stepsP sg R t x).take i).foldl M34.addP line) (g, M34.adv t x.2 c) := by
              rw [List.take_add_one, hst, List.foldl_append]; rfl
            have hyr : M34.Rch sg R t (g, M34.adv t x.2 c) := M34.steps_rch hn hxr (List.mem_of_getElem? hst)
            obtain ⟨hg1, hg2⟩ := M34.rch_lt hG hyr
            have hnd : (((M34.stepsP sg R t x).take i).foldl M34.addP line).Nodup := M34.foldP_nd hB.nd
            have hrc : ∀ z ∈ ((M34.stepsP sg R t x).take i).foldl M34.addP line, M34.Rch sg R t z := fun z hz => by
              rcases M34.foldP_mem.mp hz with hz | hz
              · exact hB.rc z hz
              · exact M34.steps_rch hn hxr (List.mem_of_mem_take hz)
            rw [hstep]
            have hl4 := M34.rch_len hG hnd hrc
            generalize ((M34.stepsP sg R t x).take i).foldl M34.addP line = ln at *
            have sT := same_upd (o := .tup [tx [c], .int (g : Int)]) nT
            refine ⟨Tp, _, rfl, .inl (.inl upd_same), rfl, _, _, rfl, _, _, rfl, rfl, ?_⟩
            have hL5 := sT _ _ hL4
            have hP5 : Prl K _ xs4 ln := hP4.nl (NL.same sT)
            have s5 := s4.trans sT
            generalize upd H4 Tp (.tup [tx [c], .int (g : Int)]) = H5 at *
            refine seq_to ?_
            refine ⟨_, rfl, _, rfl, _, rfl, _, rfl, _, rfl, _, rfl, _, _, rfl, rfl, _, rfl, t, x.2, x.2 + 1, rfl, sz (by omega), by omega, rfl, rfl, _, rfl, rfl, .inr ⟨_, rfl, _, _, rfl, rfl, by show 2 ≤ sizeLine; decide, fun T2 nT2 => ?_⟩⟩
            dsimp only [gName]
            rw [adv_int]
            generalize M34.adv t x.2 c = y2 at *
            have sU := same_upd (o := .tup [.int (g : Int), .int (y2 : Int)]) nT2
            have hT2 := upd_same (H := H5) (a := T2) (o := .tup [.int (g : Int), .int (y2 : Int)])
            have hL6 := sU _ _ hL5
            have hP6 : Prl K _ xs4 ln := hP5.nl (NL.same sU)
            have s6 := s5.trans sU
            generalize upd H5 T2 (.tup [.int (g : Int), .int (y2 : Int)]) = H6 at *
            have hwt : Wt (.list (ln.map dP2)) ((31 * 2 + 1) * 42) 2 := Wt.list (fun d hd => by
              obtain ⟨z, hz', rfl⟩ := List.mem_map.mp hd
              obtain ⟨h1, h2⟩ := M34.rch_lt hG (hrc z hz')
              exact wt_P2 (by omega) (by omega)) (by rw [List.length_map]; omega)
            refine ⟨_, rfl, _, rfl, dP2 (g, y2), ln.map dP2, .tup (.inl (.inl hT2)) (.cons (.int _) (.cons (.int _) .nil)), .lst (.inl (.inl hL6)) hP6.dp, (wt_P2 (x := (g, y2)) (by show g < 1000; have : g < R.length := hg1; omega) (by show y2 < 1000; have : y2 ≤ t.length := hg2; omega)).shaped (by decide), hwt.shaped (by decide), _, rfl, ?_⟩
            rw [any_P2]
            unfold M34.addP
            by_cases hm : (g, y2) ∈ ln
            · rw [decide_eq_true hm, if_pos hm]
              refine iteF ?_
              exact ⟨xs4, _, _, _, rfl, s6, hL6, hP6⟩
            · rw [decide_eq_false hm, if_neg hm]
              refine iteT ?_
              refine ⟨_, rfl, .inl ⟨rfl, _, .inl (.inl hL6)⟩, _, rfl, L, _, _, rfl, rfl, hL6, by have := hP6.1; rw [sizeLine_eq]; omega, ?_⟩
              refine ⟨xs4 ++ [.ref T2], _, _, _, rfl, same_up s6 nLH, upd_same, ?_⟩
              refine (hP6.nl (NL.upd hL6)).app ⟨rfl, fun j z p h1 h2 => ?_⟩
              match j, h1, h2 with
              | 0, h1, h2 =>
                cases h1
                cases h2
                exact ⟨T2, rfl, sqT_nl (.inl (.inl hT2)) (NL.upd hL6)⟩
              | j + 1, h1, _ => cases h1
          · obtain ⟨xs4, g8, g9, g10, rfl, s4, hL4, hP4⟩ := p
            rw [List.length_map, ← hsl, List.take_length] at hP4
            refine ⟨_, rfl, _, _, rfl, rfl, ?_⟩
            exact ⟨_, xs4, _, _, _, _, _, rfl, s4, hL4, hP4, hB.step hn hx hb⟩
    · rw [decide_eq_false (by omega : ¬ (n : Int) < ((xs.length : Nat) : Int))]
      exact kf _ (qt (hB.yes hG (by omega)) _ s2)
end
end Lw
namespace Lw
open PySem PySem.Spec PyProof.Rows L3
open L2 hiding del del_same del_ne
theorem maxs_can (S : List M23.Pd) : M23.canon (M23.maxs S) = M23.maxs S := by
  refine (M23.canon_uniq ?_ ?_ fun x => Iff.rfl).symm
  · exact List.Pairwise.filter _ (M23.canon_nodup S)
  · exact List.Pairwise.filter _ (M23.canon_sorted S)
theorem kept_anti {ps : List M23.Pd} {p q : M23.Pd} (hp : p ∈ M23.kept ps) (hq : q ∈ M23.kept ps) (h : p ≠ q) : ¬ M23.Emb p q :=
  (M23.maxs_mem.mp hp).2 q (M23.maxs_mem.mp hq).1 (fun e => h e.symm)
theorem no42 {sg t : List Nat} (hl : Lets sg) (h : ∀ c ∈ t, c ∈ sg) : 42 ∉ t := fun z => hl.no (h _ z)
theorem kp_any {kp : List M23.Pd} {t : List Nat} : (kp.any fun p => (M23.runI p 0 (M23.tP t)).isSome) = true ↔ M23.InS kp t := by
  rw [List.any_eq_true]
  constructor
  · rintro ⟨p, hp, h⟩
    exact ⟨p, hp, M23.runI_some.mp h⟩
  · rintro ⟨p, hp, h⟩
    exact ⟨p, hp, M23.runI_some.mpr h⟩
theorem sure42 {sg : List Nat} (hl : Lets sg) {l0 : List Nat} {LL : List (List Nat)} (h0 : ∀ c ∈ l0, c ∈ sg) : ∀ q ∈ M34.sureL (l0 :: LL), 42 ∉ q := fun q hq =>
  no42 hl fun c hc => h0 c ((M34.sureL_mem.mp hq l0 List.mem_cons_self).subset hc)
theorem kp_sem {sg : List Nat} (hl : Lets sg) {R : List (List Nat)} {k : List Bool} (hG : M14.Sht sg.length R k) {t : List Nat} (ht : ∀ c ∈ t, c ∈ sg) :
    M23.InS (M34.sureK sg (M34.leastL sg R k)) t ↔ M34.sureT sg R k t := by
  rw [M34.sure_iff hG]
  have hm := fun l (h : l ∈ M34.leastL sg R k) => (M34.least_mem h).2.1
  generalize M34.leastL sg R k = LL at *
  cases LL with
  | nil =>
    constructor
    · exact fun _ l h => by cases h
    · intro _
      show M23.InS (M23.kept [[sg ++ [42]]]) t
      rw [kept_whole hl]
      exact ⟨_, List.mem_cons_self, M34.in_whole ht hl.no⟩
  | cons l0 LL =>
    show M23.InS (M23.kept ((M34.sureL (l0 :: LL)).map M23.tP)) t ↔ _
    rw [M34.inS_sure (sure42 hl (hm l0 List.mem_cons_self)), M34.sureL_down]
theorem kp_ok {sg : List Nat} (hl : Lets sg) {LL : List (List Nat)} (hm : ∀ l ∈ LL, l.length ≤ 5 ∧ ∀ c ∈ l, c ∈ sg) : LKp (M34.sureK sg LL) := by
  cases LL with
  | nil => exact ⟨.inr ⟨sg, hl, kept_whole hl⟩, maxs_can _, fun p hp q hq h => kept_anti hp hq h, by show (M23.kept [[sg ++ [42]]]).length ≤ 40; rw [kept_whole hl]; show 1 ≤ 40; decide⟩
  | cons l0 LL =>
    obtain ⟨h1, h2⟩ := hm l0 List.mem_cons_self
    refine ⟨.inl fun p hp => ?_, maxs_can _, fun p hp q hq h => kept_anti hp hq h, ?_⟩
    · obtain ⟨q, hq, rfl⟩ := M34.kept_tP (sure42 hl h2) hp
      have hs := M34.sureL_mem.mp hq l0 List.mem_cons_self
      exact ⟨q, rfl, by have := hs.length_le; omega, fun c hc => hl.az c (h2 c (hs.subset hc))⟩
    · refine Nat.le_trans (M23.kept_len _) ?_
      rw [List.length_map]
      refine Nat.le_trans M34.sureL_len ?_
      have : 2 ^ l0.length ≤ 2 ^ 5 := Nat.pow_le_pow_right (by decide) h1
      omega
theorem LKp.few' {kp : List M23.Pd} (h : LKp kp) : Few kp := ⟨h.few, fun p hp => by
  have := h.at_ hp
  exact ⟨by have := this.len; omega, fun y hy => ⟨(this.ok y hy).2.2.2, (this.ok y hy).2.2.1⟩⟩⟩
theorem kp_len {sg : List Nat} (hl : Lets sg) {l0 : List Nat} {LL : List (List Nat)} (h0 : ∀ c ∈ l0, c ∈ sg) {p : M23.Pd} (hp : p ∈ M34.sureK sg (l0 :: LL)) : p.length ≤ l0.length := by
  obtain ⟨q, hq, rfl⟩ := M34.kept_tP (sure42 hl h0) hp
  have hs := M34.sureL_mem.mp hq l0 List.mem_cons_self
  unfold M23.tP
  rw [List.length_map]
  exact hs.length_le
theorem kp_ne {sg : List Nat} (hl : Lets sg) {l0 : List Nat} {LL : List (List Nat)} (h0 : ∀ c ∈ l0, c ∈ sg) : M34.sureK sg (l0 :: LL) ≠ [] := fun e => by
  have : M23.InS (M23.kept ((M34.sureL (l0 :: LL)).map M23.tP)) [] := (M34.inS_sure (sure42 hl h0)).mpr ⟨[], M34.sureL_mem.mpr fun o _ => List.nil_sublist _, List.Sublist.refl _⟩
  obtain ⟨p, hp, _⟩ := this
  have hp : p ∈ M34.sureK sg (l0 :: LL) := hp
  rw [e] at hp
  cases hp
theorem kp_out {sg : List Nat} (hl : Lets sg) {l0 : List Nat} {LL : List (List Nat)} (h0 : ∀ c ∈ l0, c ∈ sg) (c : Nat) : ((M34.sureK sg (l0 :: LL)).any fun p => (M23.runI p 0 (M23.tP (l0 ++ [c]))).isSome) = false := by
  rw [Bool.eq_false_iff]
  intro h
  have h := kp_any.mp h
  have h : M23.InS (M23.kept ((M34.sureL (l0 :: LL)).map M23.tP)) (l0 ++ [c]) := h
  rw [M34.inS_sure (sure42 hl h0), M34.sureL_down] at h
  have := (h l0 List.mem_cons_self).length_le
  rw [List.length_append, List.length_singleton] at this
  omega
def geo (s : Nat) : Nat → Nat
  | 0 => 0
  | i + 1 => geo s i + s ^ i
theorem upto_geo (sg : List Nat) : ∀ n, (upto sg n).length = geo sg.length n
  | 0 => rfl
  | n + 1 => by
    show (upto sg n ++ M34.lvl sg n).length = _
    rw [List.length_append, upto_geo sg n, M34.lvl_len]
    rfl
def fewB : Bool := (List.range 4).all fun s => (List.range 7).all fun n => decide (s = 0) || decide (7 < n + s) || (decide (geo s n ≤ 200) && (List.range 7).all fun i => decide (n < i) || decide (s ^ i ≤ 100))
theorem fewB_ok : fewB = true := by decide +kernel
theorem few_all {s n : Nat} (hs : s < 4) (hn : n < 7) (h0 : 0 < s) (h7 : n + s ≤ 7) : geo s n ≤ 200 ∧ ∀ i, i < 7 → i ≤ n → s ^ i ≤ 100 := by
  have h1 := List.all_eq_true.mp (List.all_eq_true.mp fewB_ok s (List.mem_range.mpr hs)) n (List.mem_range.mpr hn)
  rw [decide_eq_false (by omega : ¬ s = 0), decide_eq_false (by omega : ¬ 7 < n + s), Bool.false_or, Bool.false_or, Bool.and_eq_true] at h1
  refine ⟨of_decide_eq_true h1.1, fun i hi hin => ?_⟩
  have h2 := List.all_eq_true.mp h1.2 i (List.mem_range.mpr hi)
  rw [decide_eq_false (by omega : ¬ n < i), Bool.false_or] at h2
  exact of_decide_eq_true h2
theorem fewM {sg : List Nat} {n : Nat} (hl : Lets sg) (h : n + sg.length ≤ 7) : FewM sg n := by
  have h1 := hl.ne
  have h2 := hl.few
  obtain ⟨a, b⟩ := few_all (s := sg.length) (n := n) (by omega) (by omega) h1 h
  exact ⟨by omega, fun i hi => b i (by omega) hi, by rw [upto_geo]; exact a⟩
section
variable {w : World} {K : PySem.W.Frag} {mg : Str → Option Value} {base : Heap}
def spRight : Sp := fun vs H Q _ => ∃ a, vs = [.ref a] ∧ Pot H a ∧ ∀ H', Off a H H' → Q (.bl true) H'
theorem ok_law_right {P : Program} (T : All K mg) : FnOkG P w K mg base CX0 14 T.f_law_right T.d_law_right ["_law_pot_here"] spRight := by
  refine okG T.law_right.F sc_law_right (fun vs H Q E h => ?_) (fun cdv A outer s H vs Q E hr hG h => ?_)
  · obtain ⟨a, rfl, _⟩ := h
    rfl
  · obtain ⟨a, rfl, hp, q⟩ := h
    refine ⟨_, pss_cons (ps_set (i := 1) sc_law_right.nd rfl (by first | exact Or.inl rfl | exact Or.inr rfl) (pe_call (ok_law_pick T) (hr.mono (by decide)) (by rfl) T.law_pick.g T.law_pick.F.kp T.law_pick.b .nil pass0 (pa_cons (pv 0) (pa_cons (pe_lst (pa_cons pe_str (pa_cons pe_str (pa_cons pe_str (pa_cons pe_str (pa_cons pe_str (pa_cons pe_str pa_nil))))))) pa_nil))))
      (pss_cons (ps_set (i := 2) sc_law_right.nd rfl (by first | exact Or.inl rfl | exact Or.inr rfl) (pe_op op_add pe_int (pe_call (ok_law_draw T) (hr.mono (by decide)) (by rfl) T.law_draw.g T.law_draw.F.kp T.law_draw.b .nil pass0 (pa_cons (pv 0) (pa_cons (pe_op op_sub pe_int (pe_callB call_lenT (by rfl) T.b_len PySem.boot_len (pa_cons (pv 1) pa_nil))) pa_nil)))))
      (pss_cons (ps_set (i := 3) sc_law_right.nd rfl (by first | exact Or.inl rfl | exact Or.inr rfl) (pe_call (ok_law_rows T) (hr.mono (by decide)) (by rfl) T.law_rows.g T.law_rows.F.kp T.law_rows.b .nil pass0 (pa_cons (pv 0) (pa_cons (pv 2) (pa_cons (pe_callB call_lenT (by rfl) T.b_len PySem.boot_len (pa_cons (pv 1) pa_nil)) pa_nil)))))
      (pss_cons (ps_set (i := 4) sc_law_right.nd rfl (by first | exact Or.inl rfl | exact Or.inr rfl) (pe_call (ok_law_kinds T) (hr.mono (by decide)) (by rfl) T.law_kinds.g T.law_kinds.F.kp T.law_kinds.b .nil pass0 (pa_cons (pv 0) (pa_cons (pv 2) pa_nil))))
      (pss_cons (ps_par rfl sc_law_right.nd (i := 5) (j := 6) rfl rfl (by decide) rfl rfl (pa_cons (pe_make ⟨T.mk_Machine, T.Machine_init.m.at_, T.Machine_init.m.fn, T.kp_Machine⟩ (ok_Machine_init T) (hr.mono (by decide)) (by rfl) T.g_Machine T.Machine_init.b .nil pass0 (pa_cons (pv 1) (pa_cons (pv 3) (pa_cons (pv 4) pa_nil)))) (pa_cons (pe_call (ok_law_least T) (hr.mono (by decide)) (by rfl) T.law_least.g T.law_least.F.kp T.law_least.b .nil pass0 (pa_cons (pv 1) (pa_cons (pv 3) (pa_cons (pv 4) pa_nil)))) pa_nil)) (by rfl))
      (pss_cons (ps_set (i := 7) sc_law_right.nd rfl (by first | exact Or.inl rfl | exact Or.inr rfl) (pe_callB (cr_reprOwn (ok_Machine_repr T) (hr.mono (by decide)) hG T.Machine_repr.b T.Machine_repr.m) (by rfl) T.b_repr (by decide +kernel) (pa_cons (pv 5) pa_nil)))
      (pss_cons (ps_for PassesOwn.never rfl (pi_range1 rfl T.b_range (pa_cons pe_int pa_nil)) (pg_name (i := 8) sc_law_right.nd rfl (by first | exact Or.inl rfl | exact Or.inr rfl))
        (pss_cons (ps_set (i := 9) sc_law_right.nd rfl (by first | exact Or.inl rfl | exact Or.inr rfl) (pe_ifExp (pt_cmpR op_eq (pv 8) pe_int (nomark _)) (pe_call (ok_up T) (hr.mono (by decide)) (by rfl) T.up.g T.up.F.kp T.up.b .nil pass0 (pa_cons (pv 5) pa_nil)) (pe_callK0 (FnOkG.of (ok_up T)) (hr.mono (by decide)) hG (by rfl) T.up.g T.up.F.kp (kb1 (n := "machine") T.up.F (fun _ _ _ _ _ _ _ => rfl)) pass0 (pk_cons (pv 5) pk_nil))))
      (pss_cons (ps_if (PW.pt (pw_or (pt_cmpR op_ne (pe_callB (call_reprD hr hG) (by rfl) T.b_repr (by decide +kernel) (pa_cons (pv 9) pa_nil)) (pe_callB (call_reprD hr hG) (by rfl) T.b_repr (by decide +kernel) (pa_cons (pv 6) pa_nil)) (nomark _)) (pw_or1 (pt_not (pt_val (pe_callB (cr_all rfl) (by rfl) T.b_all PyProof.Rows.boot_all (pa_cons (pe_lc (own := [("_law_text", 10)]) (g := gName 10) (tt := tYes) rfl sc_law_right.nd (pi_list (pv 9))
          (blkOk_by (own := [("_law_text", 10)]) (N := ["_law_pot_here", "_law_signs", "_law_many", "_law_rows_here", "_law_kinds_here", "_law_gear", "_law_due", "_law_look", "_law_turn", "_law_told", "_law_text", "_law_firm", "_law_some", "_law_is_due", "_law_longest", "_law_one"]) (sc := defScope s_law_right) (by decide +kernel))
          (fun _ _ _ _ _ => pg_name (i := 10) sc_law_right.nd rfl (by first | exact Or.inl rfl | exact Or.inr rfl)) (fun _ _ _ _ _ => pts_nil)
          (fun _ _ _ _ _ => (pe_call (ok_is_part T) (hr.mono (by decide)) (by rfl) T.is_part.g T.is_part.F.kp T.is_part.b .nil pass0 (pa_cons (pv 10) (pa_cons (pe_op op_addT (pv 10) (pv 1)) pa_nil))))) pa_nil))))))) (pss_one (ps_ret pe_bl)) pss_nil)
      (pss_cons (ps_expr (pe_bm PySem.F.plainAttrs_list PySem.F.slot_list_append PySem.F.type_list_append mt_append (pv 9) (pa_cons pe_str pa_nil)))
      (pss_cons (ps_set (i := 11) sc_law_right.nd rfl (by first | exact Or.inl rfl | exact Or.inr rfl) (pe_ifExp (pt_cmpR op_eq (pv 8) pe_int (nomark _)) (pe_call (ok_sure_parts T) (hr.mono (by decide)) (by rfl) T.sure_parts.g T.sure_parts.F.kp T.sure_parts.b .nil pass0 (pa_cons (pv 5) pa_nil)) (pe_callK0 (FnOkG.of (ok_sure_parts T)) (hr.mono (by decide)) hG (by rfl) T.sure_parts.g T.sure_parts.F.kp (kb1 (n := "machine") T.sure_parts.F (fun _ _ _ _ _ _ _ => rfl)) pass0 (pk_cons (pv 5) pk_nil))))
      (pss_cons (ps_set (i := 12) sc_law_right.nd rfl (by first | exact Or.inl rfl | exact Or.inr rfl) (pe_meth0 (pv 11) T.cl_Sum T.Sum_products.m (ok_Sum_products T) (hr.mono (by decide)) T.Sum_products.b .nil pass0))
      (pss_cons (ps_if (PW.pt (pw_or (pt_cmpR op_ne (pe_callB (call_reprD hr hG) (by rfl) T.b_repr (by decide +kernel) (pa_cons (pv 12) pa_nil)) (pe_callB (call_reprD hr hG) (by rfl) T.b_repr (by decide +kernel) (pa_cons (pe_call (ok_law_kept T) (hr.mono (by decide)) (by rfl) T.law_kept.g T.law_kept.F.kp T.law_kept.b .nil pass0 (pa_cons (pv 12) pa_nil)) pa_nil)) (nomark _)) (pw_or1 (pt_cmpR op_ne (pe_prop (pv 11) T.cl_Sum T.Sum_letters.p (ok_Sum_letters T) (hr.mono (by decide)) T.Sum_letters.b .nil pass0 rfl) (pv 1) (nomark _))))) (pss_one (ps_ret pe_bl)) pss_nil)
      (pss_cons (ps_for PassesOwn.never rfl (pi_list (pe_call (ok_law_texts T) (hr.mono (by decide)) (by rfl) T.law_texts.g T.law_texts.F.kp T.law_texts.b .nil pass0 (pa_cons (pv 1) (pa_cons (pe_ifExp (pt_cmpR op_lt (pv 2) pe_int (nomark _)) (pe_op op_mul (pe_callB call_lenT (by rfl) T.b_len PySem.boot_len (pa_cons (pv 1) pa_nil)) pe_int) pe_int) pa_nil)))) (pg_name (i := 10) sc_law_right.nd rfl (by first | exact Or.inl rfl | exact Or.inr rfl))
        (pss_cons (ps_set (i := 13) sc_law_right.nd rfl (by first | exact Or.inl rfl | exact Or.inr rfl) (pe_call (ok_law_is_sure T) (hr.mono (by decide)) (by rfl) T.law_is_sure.g T.law_is_sure.F.kp T.law_is_sure.b .nil pass0 (pa_cons (pv 1) (pa_cons (pv 3) (pa_cons (pv 4) (pa_cons (pv 10) pa_nil))))))
      (pss_one (ps_if (pt_cmpR op_ne (pe_callB (call_reprD hr hG) (by rfl) T.b_repr (by decide +kernel) (pa_cons (pe_lst (pa_cons (pe_cmpR (op_inOwn (FnOkG.of (ok_Sum_contains T)) (hr.mono (by decide)) hG T.Sum_contains.b T.Sum_contains.m) (pv 10) (pv 11) (by rfl)) (pa_cons (pe_call (ok_law_has T) (hr.mono (by decide)) (by rfl) T.law_has.g T.law_has.F.kp T.law_has.b .nil pass0 (pa_cons (pv 12) (pa_cons (pv 10) pa_nil))) pa_nil))) pa_nil)) (pe_callB (call_reprD hr hG) (by rfl) T.b_repr (by decide +kernel) (pa_cons (pe_op op_rep (pe_lst (pa_cons (pv 13) pa_nil)) pe_int) pa_nil)) (nomark _)) (pss_one (ps_ret pe_bl)) pss_nil))))
      (pss_cons (ps_set (i := 14) sc_law_right.nd rfl (by first | exact Or.inl rfl | exact Or.inr rfl) (pe_ifExp (pt_cmpR (op_eqD (u64 hr)) (pv 6) (pe_lst pa_nil) (nomark _)) pe_str (pe_ix ix_list (pv 6) pe_int (fun _ _ => rfl))))
      (pss_cons (ps_if (PW.pt (pw_and (pt_cmpR (op_neD (u64 hr)) (pv 6) (pe_lst pa_nil) (nomark _)) (pw_and1 (pt_cmpR op_gt (pe_callB (cr_max rfl) (by rfl) T.b_max PyProof.Rows.boot_max (pa_cons (pe_lc (own := [("_law_one", 15)]) (g := gName 15) (tt := tYes) rfl sc_law_right.nd (pi_list (pv 12))
          (blkOk_by (own := [("_law_one", 15)]) (N := ["_law_pot_here", "_law_signs", "_law_many", "_law_rows_here", "_law_kinds_here", "_law_gear", "_law_due", "_law_look", "_law_turn", "_law_told", "_law_text", "_law_firm", "_law_some", "_law_is_due", "_law_longest", "_law_one"]) (sc := defScope s_law_right) (by decide +kernel))
          (fun _ _ _ _ _ => pg_name (i := 15) sc_law_right.nd rfl (by first | exact Or.inl rfl | exact Or.inr rfl)) (fun _ _ _ _ _ => pts_nil)
          (fun _ _ _ _ _ => (pe_callB (call_len_seqK (K := K) rfl) (by rfl) T.b_len PySem.boot_len (pa_cons (pv 15) pa_nil)))) pa_nil)) (pe_callB call_lenT (by rfl) T.b_len PySem.boot_len (pa_cons (pv 14) pa_nil)) (nomark _))))) (pss_one (ps_ret pe_bl)) pss_nil)
      (pss_cons (ps_if (PW.pt (pw_and (pt_cmpR (op_neD (u64 hr)) (pv 6) (pe_lst pa_nil) (nomark _)) (pw_and1 (pt_cmpR (op_inOwn (FnOkG.of (ok_Sum_contains T)) (hr.mono (by decide)) hG T.Sum_contains.b T.Sum_contains.m) (pe_op op_addT (pv 14) (pe_ix ix_tx (pv 1) pe_int (fun _ _ => rfl))) (pv 11) (by rfl))))) (pss_one (ps_ret pe_bl)) pss_nil)
      (pss_one (ps_expr (pe_bm0 PySem.F.plainAttrs_list PySem.F.slot_list_clear PySem.F.type_list_clear mt_clear (pv 12)))))))))))))))
      (pss_one (ps_ret (pe_cmpR op_eq (pe_callB (cr_reprOwn (ok_Machine_repr T) (hr.mono (by decide)) hG T.Machine_repr.b T.Machine_repr.m) (by rfl) T.b_repr (by decide +kernel) (pa_cons (pv 5) pa_nil)) (pv 7) (by rfl)))))))))), ?_⟩
    try dsimp only [cxOf]
    refine seq_to ?_
    refine ⟨_, rfl, by show 6 ≤ sizeLine; decide, fun L0 n0 => ?_⟩
    have s0 := same_upd (o := .lst [.str "ab", .str "ab", .str "abc", .str "a", .str "bz", .str "cde"]) n0
    have hL0 := upd_same (H := H) (a := L0) (o := .lst [.str "ab", .str "ab", .str "abc", .str "a", .str "bz", .str "cde"])
    generalize upd H L0 (.lst [.str "ab", .str "ab", .str "abc", .str "a", .str "bz", .str "cde"]) = H0 at *
    have hp0 := hp.same s0
    have hL0a : L0 ≠ a := fun e => hp.some (by rw [← e]; exact n0)
    refine ⟨a, _, rfl, hp0, .inr ⟨L0, _, rfl, hL0a, .inl (.inl hL0), by simp, by show 6 ≤ 1000; decide, fun H1 v hv hp1 ho1 => ?_⟩⟩
    obtain ⟨sg, rfl, hl⟩ : ∃ sg, v = tx sg ∧ Lets sg := by
      simp only [List.mem_cons, List.not_mem_nil, or_false] at hv
      rcases hv with rfl | rfl | rfl | rfl | rfl | rfl
      · exact ⟨[97, 98], rfl, by decide, by decide, by decide, by decide⟩
      · exact ⟨[97, 98], rfl, by decide, by decide, by decide, by decide⟩
      · exact ⟨[97, 98, 99], rfl, by decide, by decide, by decide, by decide⟩
      · exact ⟨[97], rfl, by decide, by decide, by decide, by decide⟩
      · exact ⟨[98, 122], rfl, by decide, by decide, by decide, by decide⟩
      · exact ⟨[99, 100, 101], rfl, by decide, by decide, by decide, by decide⟩
    have o1 : Off a H H1 := (Off.of s0).trans ho1
    have hsl := hl.few
    have hs0 := hl.ne
    refine seq_to ?_
    refine ⟨_, rfl, _, rfl, sg, rfl, sz (by omega), _, _, rfl, rfl, a, 7 - sg.length, congrArg (fun z => [V.ref a, V.int z]) (by omega), hp1, by omega, by omega, fun H2 d hd hp2 ho2 => ⟨_, _, rfl, rfl, ?_⟩⟩
    obtain ⟨n, hn⟩ : ∃ n : Nat, n = 1 + d := ⟨_, rfl⟩
    dsimp only [gName]
    rw [show (1 : Int) + (d : Int) = (n : Int) by omega]
    have o2 := o1.trans ho2
    have hfm : FewM sg n := fewM hl (by omega)
    refine seq_to ?_
    refine ⟨_, rfl, _, rfl, _, rfl, sg, rfl, sz (by omega), a, n, sg.length, rfl, hp2, by omega, by omega, hs0, hsl, fun H3 r R hRl hGG hp3 ho3 nr hr3 => ?_⟩
    have o3 := o2.trans ho3
    refine seq_to ?_
    refine ⟨_, rfl, _, rfl, a, n, rfl, hp3, by omega, by omega, fun H4 k kk hkl hp4 ho4 nk hk4 => ?_⟩
    have o4 := o3.trans ho4
    have hG := hGG kk hkl
    have hR4 : Dp K H4 (.ref r) (dLR R) := Dp.same (del_same _ _) (Dp.same (off_del ho4) hr3)
    have hRn : R.length = n := hRl
    subst hRn
    dsimp only [gName]
    refine seq_to ?_
    refine ⟨_, rfl, _, rfl, _, rfl, ?_⟩
    intro x dx nx ndx _
    refine make_ok hl (rw_dLR hR4) (sq_list (.inl (.inl hk4))) hG nx ndx fun H5 s5 hM => ?_
    have hR5 := Dp.same s5 hR4
    have hk5 := s5 _ _ hk4
    refine ⟨_, rfl, _, rfl, _, rfl, r, k, sg, R, kk, rfl, hR5, .inl (.inl hk5), hG.toSht, hsl, hfm, fun H6 U s6 nU hU => ⟨_, _, rfl, ?_⟩⟩
    have s56 := s5.trans s6
    have hM6 := hM.same s6
    have hR6 := Dp.same s6 hR5
    have hk6 := s6 _ _ hk5
    refine seq_to ?_
    obtain ⟨dx6, r6, q6, hat6, _⟩ := id hM6.at_
    refine ⟨_, rfl, x, dx6, _, rfl, hat6, x, sg, R, kk, rfl, hM6, fun H7 s7 => ⟨_, rfl, ?_⟩⟩
    have hM7 := hM6.same s7
    have hR7 := Dp.same s7 hR6
    have hk7 := s7 _ _ hk6
    have hU7 := s7 _ _ hU
    have o7 : Off a H H7 := o4.trans (Off.of (s56.trans s7))
    have hLm : ∀ l ∈ M34.leastL sg R kk, l.length ≤ 5 ∧ ∀ c ∈ l, c ∈ sg := fun l h => by
      obtain ⟨h1, h2, _⟩ := M34.least_mem h
      have := hfm.few
      exact ⟨by omega, h2⟩
    have hLz : (M34.leastL sg R kk).length ≤ 200 := by
      have h1 := foldL_len (sg := sg) (R := R) (k := kk) (M34.texts sg (R.length - 1)) []
      rw [← upto_texts, Nat.sub_add_cancel hG.ne, List.length_nil] at h1
      have h2 := hfm.tx
      unfold M34.leastL
      rw [← upto_texts, Nat.sub_add_cancel hG.ne]
      omega
    have hsem : ∀ t : List Nat, (∀ c ∈ t, c ∈ sg) → (M23.InS (M34.sureK sg (M34.leastL sg R kk)) t ↔ M34.sureT sg R kk t) := fun t ht => kp_sem hl hG.toSht ht
    have hkp := kp_ok hl hLm
    have wtL : Wt (.list (dTx (M34.leastL sg R kk))) (11 * 200) 1 := wt_txs (fun y hy => ⟨fun c hc => by have := hl.az c ((hLm y hy).2 c hc); omega, by have := (hLm y hy).1; omega⟩) hLz
    have w1 := wtL.shw (by decide) (by decide)
    clear hR4 hk4 hR5 hk5 hR6 hk6 hM hM6 hU hat6 s5 s6 s7 s56 hr3 nr nk nx ndx nU o1 o2 o3 o4 ho1 ho2 ho3 ho4 hp0 hp1 hp2 hp3 hv n0 s0 hL0
    dsimp only [gName]
    refine seq_to ?_
    refine ⟨(2 : Int), rfl, by omega, by omega, ?_⟩
    refine for_it walk_range (fun i σ H' => ∃ g8 g9 g10 g11 g12 g13 g14, σ = [some (.ref a), some (tx sg), some (.int ((R.length : Nat) : Int)), some (.ref r), some (.ref k), some (.ref x), some (.ref U), some (.str (spk sg R kk)), g8, g9, g10, g11, g12, g13, g14, none] ∧ Same H7 H') ⟨none, none, none, none, none, none, none, rfl, Same.refl _⟩ (fun _ _ _ _ _ => trivial) (fun i z σ H8 H9 hi pp yy => ?_) (fun σ H8 pp => ?_)
    · obtain ⟨g8, g9, g10, g11, g12, g13, g14, rfl, s8⟩ := pp
      obtain ⟨rfl, rfl⟩ := yy
      have hM8 := hM7.same s8
      have hU8 := s8 _ _ hU7
      dsimp only [gName]
      refine seq_to ?_
      refine joinE (fun v H' => ∃ p, v = .ref p ∧ Same H9 H' ∧ H9 p = none ∧ H' p = some (.lst ((M34.leastL sg R kk).map tx))) (fun Q' hQ => ?_) (fun v H10 h => ?_)
      · refine ⟨_, rfl, rfl, _, rfl, ?_⟩
        have done : ∀ H' p, Same H9 H' → H9 p = none → H' p = some (.lst ((M34.leastL sg R kk).map tx)) → Q' (.ref p) H' := fun H' p s n h => hQ _ _ ⟨p, rfl, s, n, h⟩
        refine ite2 (fun _ => ?_) (fun _ => ?_)
        · exact ⟨_, rfl, x, sg, R, kk, rfl, hM8, hfm, done⟩
        · exact ⟨_, rfl, x, sg, R, kk, rfl, hM8, hfm, done⟩
      obtain ⟨told, rfl, s10, ntold, htold⟩ := h
      have hU10 := s10 _ _ hU8
      have hM10 := hM8.same s10
      dsimp only [gName]
      refine seq_to ?_
      refine if_no (fun H' => Same H10 H') (fun Q' hQ => ?_) (fun H11 s11 => ?_)
      · refine ⟨_, rfl, .ref told, .list (dTx (M34.leastL sg R kk)), rfl, .lst (.inl (.inl htold)) (dp_txs _), w1.s, w1.z, w1.p, ?_⟩
        refine ⟨_, rfl, .ref U, .list (dTx (M34.leastL sg R kk)), rfl, .lst (.inl (.inl hU10)) (dp_txs _), w1.s, w1.z, w1.p, rfl, _, rfl, ite_f (by simp) ?_⟩
        refine ⟨_, rfl, told, rfl, ⟨_, .inl (.inl htold)⟩, fun D nD => ?_⟩
        refine lc_gen (walk_list (xs := (M34.leastL sg R kk).map tx)) (Same H10) (fun n acc => acc = (List.replicate n true).map V.bl) (by rw [List.length_map]; exact sz (by omega)) (fun n acc e => by rw [e, List.length_map, List.length_replicate]; exact Nat.le_refl _) rfl (same_upd nD) (fun _ _ h => same_up h nD) (fun _ h => .inl (.inl (h _ _ htold))) (fun n y H12 H13 acc C N hn rr hD ha yy c nn => ?_) (fun H12 xs rr hD ha => ?_)
        · obtain ⟨rfl, yy⟩ := yy
          rw [List.getElem?_map] at yy
          obtain ⟨t, ht, rfl⟩ := Option.map_eq_some_iff.mp yy
          obtain ⟨ht1, ht2⟩ := hLm t (List.mem_of_getElem? ht)
          have haz : ∀ c ∈ t, 97 ≤ c ∧ c ≤ 122 := fun c hc => hl.az c (ht2 c hc)
          refine ⟨rfl, yes_te ⟨_, rfl, _, rfl, _, rfl, t, sg, rfl, rfl, sz (by omega), ?_⟩⟩
          refine ⟨t, t ++ sg, rfl, haz, by omega, fun c hc => ?_, by rw [List.length_append]; omega, fun H14 s14 => ?_⟩
          · rcases List.mem_append.mp hc with hc | hc
            · exact haz c hc
            · exact hl.az c hc
          · refine c _ _ (rr.trans s14) (s14 _ _ hD) ?_
            rw [ha, List.replicate_succ', List.map_append, decide_eq_true (List.sublist_append_left t sg)]
            rfl
        · subst ha
          refine ⟨D, List.replicate _ true, rfl, .inl (.inl hD), _, rfl, ?_⟩
          rw [all_id_rep]
          exact hQ _ rr
      have s911 := s10.trans s11
      have htold11 := s11 _ _ htold
      dsimp only [tNext]
      refine seq_to ?_
      refine ⟨_, rfl, .inl ⟨rfl, _, .inl (.inl htold11)⟩, told, _, _, rfl, rfl, htold11, by rw [List.length_map, sizeLine_eq]; omega, ?_⟩
      have s12 : Same H9 (upd H11 told (.lst ((M34.leastL sg R kk).map tx ++ [.str ""]))) := same_up s911 ntold
      generalize upd H11 told (.lst ((M34.leastL sg R kk).map tx ++ [.str ""])) = H12 at *
      have hM12 := hM8.same s12
      dsimp only
      refine seq_to ?_
      refine joinE (fun v H' => ∃ f, v = .ref f ∧ Same H12 H' ∧ SumO T.C_Sum K H' f sg (M34.sureK sg (M34.leastL sg R kk))) (fun Q' hQ => ?_) (fun v H13 h => ?_)
      · refine ⟨_, rfl, rfl, _, rfl, ?_⟩
        refine ite2 (fun _ => ?_) (fun _ => ?_)
        · exact ⟨_, rfl, x, sg, R, kk, rfl, hM12, hfm, fun H' f s nf hf => hQ _ _ ⟨f, rfl, s, hf⟩⟩
        · exact ⟨_, rfl, x, sg, R, kk, rfl, hM12, hfm, fun H' f s nf hf => hQ _ _ ⟨f, rfl, s, hf⟩⟩
      obtain ⟨f, rfl, s13, hf⟩ := h
      obtain ⟨dxf, tf, hatf, _⟩ := id hf.at_
      have s913 := s12.trans s13
      dsimp only [gName]
      refine seq_to ?_
      refine ⟨_, rfl, f, dxf, _, rfl, hatf, rfl, f, sg, _, rfl, hf, fun pS bs nS hbs hPr => ?_⟩
      have s14 := same_upd (o := .lst (rfs bs)) nS
      have hS14 := upd_same (H := H13) (a := pS) (o := .lst (rfs bs))
      have nS7 : H7 pS = none := (s8.trans s913).free nS
      have hf14 := hf.same s14
      have hP14 := hPr.same s14
      have hatf14 := s14 _ _ hatf
      generalize upd H13 pS (.lst (rfs bs)) = H14 at *
      have s914 := s913.trans s14
      have w2 := (wt_dPL hkp.few').shw (by decide) (by decide)
      have hkb : LKp (bs.map Prod.snd) := by rw [hbs]; exact hkp
      have hbz : bs.length ≤ 40 := by have := hkb.few; rwa [List.length_map] at this
      have dps : ∀ {H' : Hp} {p : Addr} {cs : List AP}, H' p = some (.lst (rfs cs)) → Prods K H' cs → cs.map Prod.snd = M34.sureK sg (M34.leastL sg R kk) → Dp K H' (.ref p) (dPL (M34.sureK sg (M34.leastL sg R kk))) := fun h1 h2 h3 => by
        have := aps_dp h2
        rw [h3] at this
        exact .lst (.inl (.inl h1)) this
      dsimp only [gName]
      refine seq_to ?_
      refine if_no (fun H' => Same H14 H') (fun Q' hQ => ?_) (fun H15 s15 => ?_)
      · refine ⟨_, rfl, .ref pS, _, rfl, dps hS14 hP14 hbs, w2.s, w2.z, w2.p, ?_⟩
        refine ⟨_, rfl, pS, bs, rfl, .inl (.inl hS14), hP14, hkb, fun H' p cs s np hp hPc hcs => ?_⟩
        refine ⟨.ref p, _, rfl, dps hp hPc (hcs.trans hbs), w2.s, w2.z, w2.p, rfl, _, rfl, ite_f (by simp) ?_⟩
        refine ⟨_, rfl, f, dxf, _, rfl, s _ _ hatf14, f, sg, _, rfl, hf14.same s, _, rfl, rfl, _, rfl, ?_⟩
        rw [show (!decide (tx sg = tx sg)) = false by simp]
        exact hQ _ s
      have s915 := s914.trans s15
      have hf15 := hf14.same s15
      have hatf15 := s15 _ _ hatf14
      have hS15 := s15 _ _ hS14
      have hP15 := hP14.same s15
      dsimp only [tNext]
      refine seq_to ?_
      have s715 := s8.trans s915
      have hR15 := Dp.same s715 hR7
      have hk15 := s715 _ _ hk7
      refine ⟨_, rfl, joinE (fun v H' => ∃ m : Nat, v = .int (m : Int) ∧ m ≤ 6 ∧ H' = H15) (fun Q' hQ => ?_) (fun v H' h => ?_)⟩
      · refine ⟨_, rfl, _, _, rfl, rfl, _, rfl, ite2 (fun _ => ?_) (fun _ => ?_)⟩
        · refine ⟨_, rfl, sg, rfl, sz (by omega), _, _, rfl, rfl, (by unfold CMul; first | omega | exact .inl ⟨by omega, by omega⟩ | exact ⟨by omega, by omega⟩), ?_⟩
          exact hQ _ _ ⟨sg.length * 2, by congr 1, by omega, rfl⟩
        · exact hQ _ _ ⟨4, rfl, by decide, rfl⟩
      obtain ⟨m, rfl, hm6, rfl⟩ := h
      refine ⟨sg, m, rfl, hsl, hm6, fun H16 LT s16 nLT hLT => ?_⟩
      have htl := texts3 hsl hm6
      have htm : ∀ t ∈ M34.texts sg m, t.length ≤ 6 ∧ ∀ c ∈ t, c ∈ sg := fun t ht => by
        obtain ⟨h1, h2⟩ := M34.texts_mem.mp ht
        exact ⟨by omega, h2⟩
      generalize M34.texts sg m = TT at *
      refine ⟨LT, rfl, ⟨_, .inl (.inl hLT)⟩, ?_⟩
      refine for_it (walk_list (xs := TT.map tx)) (fun j σ H'' => ∃ g10 g13, σ = [some (.ref a), some (tx sg), some (.int ((R.length : Nat) : Int)), some (.ref r), some (.ref k), some (.ref x), some (.ref U), some (.str (spk sg R kk)), some (.int (0 + (i : Int))), some (.ref told), g10, some (.ref f), some (.ref pS), g13, g14, none] ∧ Same H' H'' ∧ H'' LT = some (.lst (TT.map tx))) ⟨_, _, rfl, s16, hLT⟩ (fun j σ H'' _ p => by obtain ⟨_, _, _, _, h⟩ := p; exact .inl (.inl h)) (fun j z σ H17 H18 hj pp yy => ?_) (fun σ H17 pp => ?_)
      · obtain ⟨g10, g13, rfl, s17, hLT17⟩ := pp
        obtain ⟨rfl, yy⟩ := yy
        rw [List.getElem?_map] at yy
        obtain ⟨t, ht, rfl⟩ := Option.map_eq_some_iff.mp yy
        obtain ⟨ht1, ht2⟩ := htm t (List.mem_of_getElem? ht)
        dsimp only [gName]
        refine seq_to ?_
        refine joinE (fun v Hx => ∃ b : Bool, v = .bl b ∧ (b = true ↔ M34.sureT sg R kk t) ∧ Same H18 Hx) (fun Q' hQ => ?_) (fun v H19 h => ?_)
        · refine ⟨_, rfl, _, rfl, _, rfl, _, rfl, r, k, sg, t, R, kk, rfl, Dp.same s17 hR15, .inl (.inl (s17 _ _ hk15)), hG.toSht, hl.up.imp (fun h => Nat.ne_of_lt h), hsl, hfm.few, ht1, fun hy Hx sx => hQ _ _ ⟨true, rfl, by simp [hy], sx⟩, fun hn Hx sx => hQ _ _ ⟨false, rfl, by simp [hn], sx⟩⟩
        obtain ⟨b, rfl, hb, s19⟩ := h
        have s1519 := s17.trans s19
        have hf19 := hf15.same s1519
        have hatf19 := s1519 _ _ hatf15
        have hS19 := s1519 _ _ hS15
        have hP19 := hP15.same s1519
        have hany : ((M34.sureK sg (M34.leastL sg R kk)).any fun p => (M23.runI p 0 (M23.tP t)).isSome) = b := by
          rw [Bool.eq_iff_iff, hb, kp_any]
          exact hsem t ht2
        have hany2 : (bs.any fun b => (M23.runI b.2 0 (M23.tP t)).isSome) = b := by
          rw [← hany, ← hbs, List.any_map]
          rfl
        have hall : (t.all fun c => decide (c ∈ sg)) = true := List.all_eq_true.mpr fun c hc => decide_eq_true (ht2 c hc)
        have wb : Wt (.list [.bool b, .bool b]) ((0 + 1) * 2) 1 := Wt.list (fun d hd => by
          simp only [List.mem_cons, List.not_mem_nil, or_false, or_self] at hd
          rw [hd]
          exact Wt.bool b) (by show 2 ≤ 2; decide)
        have wbs := wb.shw (by decide) (by decide)
        dsimp only [gName]
        refine if_no (fun Hx => Same H19 Hx) (fun Q' hQ => ?_) (fun H20 s20 => ?_)
        · refine ⟨_, rfl, _, rfl, f, dxf, _, rfl, hatf19, f, tx t, sg, _, rfl, hf19, hkp.few', .inl ⟨t, rfl, by omega, fun Ha sa => ⟨_, rfl, ?_⟩⟩⟩
          rw [hall, hany, Bool.true_and]
          refine ⟨_, rfl, _, rfl, pS, bs, t, rfl, .inl (.inl (sa _ _ hS19)), hP19.same sa, fun z hz => hkb.at_ (List.mem_map_of_mem hz), hbz, fun c hc => (fun e => hl.no (by rw [← e]; exact ht2 c hc)), fun Hb sb => ?_⟩
          rw [hany2]
          refine ⟨by show 2 ≤ sizeLine; decide, fun q1 n1 => ?_⟩
          refine ⟨.ref q1, .list [.bool b, .bool b], rfl, .lst (.inl (.inl upd_same)) (.cons (.bl _) (.cons (.bl _) .nil)), wbs.s, wbs.z, wbs.p, ?_⟩
          refine ⟨_, rfl, by show 1 ≤ sizeLine; decide, fun q2 n2 => ⟨q2, 2, _, rfl, rfl, upd_same, by decide, by decide, by show 1 * 2 ≤ sizeLine; decide, fun q3 n3 => ?_⟩⟩
          refine ⟨.ref q3, .list [.bool b, .bool b], rfl, .lst (.inl (.inl upd_same)) (.cons (.bl _) (.cons (.bl _) .nil)), wbs.s, wbs.z, wbs.p, rfl, _, rfl, ?_⟩
          rw [show (!decide (V.str (PyData.list [.bool b, .bool b]).shown = V.str (PyData.list [.bool b, .bool b]).shown)) = false by simp]
          exact hQ _ (sa.trans (sb.trans ((same_upd n1).trans ((same_upd n2).trans (same_upd n3)))))
        · dsimp only [tNext]
          exact ⟨_, _, rfl, s1519.trans s20, (s19.trans s20) _ _ hLT17⟩
      · obtain ⟨g10', g13', rfl, s17, _⟩ := pp
        have hU17 : H17 U = some (.lst ((M34.leastL sg R kk).map tx)) := (s715.trans s17) _ _ hU7
        have hf17 := hf15.same s17
        have hatf17 := s17 _ _ hatf15
        have hS17 := s17 _ _ hS15
        have hP17 := hP15.same s17
        have s717 := s715.trans s17
        have dnil : ∀ {Hx : Hp} {e : Addr}, Hx e = some (.lst []) → Dp K Hx (.ref e) (.list []) := fun h => .lst (.inl (.inl h)) .nil
        dsimp only
        refine seq_to ?_
        generalize M34.leastL sg R kk = LL at *
        refine joinE (fun v Hx => ∃ lo : List Nat, v = tx lo ∧ Same H17 Hx ∧ (LL = [] ∨ ∃ L', LL = lo :: L')) (fun Q' hQ => ?_) (fun v H18 h => ?_)
        · refine ⟨_, rfl, by show 0 ≤ sizeLine; decide, fun e ne => ?_⟩
          refine ⟨.list (dTx LL), .list [], .lst (.inl (.inl (same_upd ne _ _ hU17))) (dp_txs _), dnil upd_same, wtL.shaped (by decide), rfl, ?_⟩
          rw [eq_nil]
          have se := same_upd (o := .lst []) ne
          have hU18 := se _ _ hU17
          generalize upd H17 e (.lst []) = H18 at *
          cases LL with
          | nil => exact ⟨_, rfl, ite_t rfl (hQ _ _ ⟨[], rfl, se, .inl rfl⟩)⟩
          | cons l0 L' =>
            refine ⟨_, rfl, ite_f rfl ?_⟩
            exact ⟨_, rfl, U, _, 0, tx l0, rfl, rfl, .inl (.inl hU18), (by show atI _ ((0 : Nat) : Int) = _; exact atI_nat rfl), hQ _ _ ⟨l0, rfl, se, .inr ⟨L', rfl⟩⟩⟩
        obtain ⟨lo, rfl, s18, hlo⟩ := h
        dsimp only [gName]
        refine seq_to ?_
        refine if_no (fun Hx => Same H18 Hx) (fun Q' hQ => ?_) (fun H19 s19 => ?_)
        · refine ⟨_, rfl, by show 0 ≤ sizeLine; decide, fun e ne => ?_⟩
          have se := same_upd (o := .lst []) ne
          have he := upd_same (H := H18) (a := e) (o := .lst [])
          have hU18 := se _ _ (s18 _ _ hU17)
          have s1719 := s18.trans se
          generalize upd H18 e (.lst []) = H19 at *
          refine ⟨.list (dTx LL), .list [], .lst (.inl (.inl hU18)) (dp_txs _), dnil he, wtL.shaped (by decide), rfl, _, rfl, ?_⟩
          rw [eq_nil]
          rcases hlo with rfl | ⟨L', rfl⟩
          · exact ite_f rfl (hQ _ se)
          refine ite_t rfl ?_
          have h0 := hLm lo List.mem_cons_self
          have hS19 := s1719 _ _ hS17
          have hP19 := hP17.same s1719
          refine ⟨_, rfl, pS, rfl, ⟨_, .inl (.inl hS19)⟩, fun D nD => ?_⟩
          have hrl : (rfs bs).length = bs.length := List.length_map _
          refine lc_gen (walk_list (xs := rfs bs)) (Same H19) (fun n acc => acc = ((bs.take n).map fun b => ((b.2.length : Nat) : Int)).map V.int) (sz (by omega)) (fun n acc e => by rw [e, List.length_map, List.length_map, List.length_take]; omega) rfl (same_upd nD) (fun _ _ h => same_up h nD) (fun _ h => .inl (.inl (h _ _ hS19))) (fun n y H20 H21 acc C N hn rr hD ha yy c nn => ?_) (fun H20 xs rr hD ha => ?_)
          · obtain ⟨rfl, yy⟩ := yy
            rw [show (rfs bs)[n]? = (bs[n]?).map fun b => V.ref b.1 from List.getElem?_map] at yy
            obtain ⟨b, hb, rfl⟩ := Option.map_eq_some_iff.mp yy
            refine ⟨rfl, yes_te ⟨_, rfl, b.1, _, rfl, .inr (sqT_same (hP19 b (List.mem_of_getElem? hb)) rr), ?_⟩⟩
            refine c _ _ rr hD ?_
            rw [ha, List.take_add_one, hb, List.map_append, List.map_append, List.length_map]
            rfl
          · subst ha
            rw [hrl, List.take_length] at hD
            have hbne : bs ≠ [] := fun e => kp_ne hl h0.2 (by rw [← hbs, e]; rfl)
            refine ⟨D, _, rfl, .inl (.inl hD), by rw [List.length_map]; exact List.length_pos_iff.mpr hbne, fun mx hmx _ => ?_⟩
            obtain ⟨b, hb, rfl⟩ := List.mem_map.mp hmx
            have hbl : b.2.length ≤ lo.length := kp_len hl h0.2 (by rw [← hbs]; exact List.mem_map_of_mem hb)
            refine ⟨_, rfl, lo, rfl, sz (by omega), _, _, rfl, rfl, _, rfl, ?_⟩
            rw [decide_eq_false (by omega)]
            exact hQ _ (se.trans rr)
        have s1719 := s18.trans s19
        dsimp only [tNext]
        refine seq_to ?_
        refine if_no (fun Hx => Same H19 Hx) (fun Q' hQ => ?_) (fun H20 s20 => ?_)
        · refine ⟨_, rfl, by show 0 ≤ sizeLine; decide, fun e ne => ?_⟩
          have se := same_upd (o := .lst []) ne
          have he := upd_same (H := H19) (a := e) (o := .lst [])
          have hU19 := se _ _ (s1719 _ _ hU17)
          have s1720 := s1719.trans se
          generalize upd H19 e (.lst []) = H20 at *
          refine ⟨.list (dTx LL), .list [], .lst (.inl (.inl hU19)) (dp_txs _), dnil he, wtL.shaped (by decide), rfl, _, rfl, ?_⟩
          rw [eq_nil]
          rcases hlo with rfl | ⟨L', rfl⟩
          · exact ite_f rfl (hQ _ se)
          refine ite_t rfl ?_
          have h0 := hLm lo List.mem_cons_self
          obtain ⟨c0, hc0⟩ : ∃ c0, sg[0]? = some c0 := ⟨_, List.getElem?_eq_getElem hs0⟩
          refine ⟨_, rfl, _, rfl, sg, 0, c0, rfl, rfl, sz (by omega), hc0, lo, [c0], rfl, rfl, sz (by rw [List.length_singleton]; omega), _, rfl, f, dxf, _, rfl, s1720 _ _ hatf17, f, tx (lo ++ [c0]), sg, _, rfl, hf17.same s1720, hkp.few', .inl ⟨lo ++ [c0], rfl, by rw [List.length_append, List.length_singleton]; omega, fun Ha sa => ⟨_, rfl, _, rfl, ?_⟩⟩⟩
          rw [kp_out hl h0.2, Bool.and_false]
          exact hQ _ (se.trans sa)
        have s1720 := s1719.trans s20
        have hS20 := s1720 _ _ hS17
        dsimp only [tNext]
        refine ⟨_, rfl, .inl ⟨rfl, _, .inl (.inl hS20)⟩, pS, _, rfl, rfl, hS20, ?_⟩
        exact ⟨_, _, _, _, _, _, _, rfl, same_up (s717.trans s1720) nS7⟩
    · obtain ⟨g8, g9, g10, g11, g12, g13, g14, rfl, s8⟩ := pp
      have hM8 := hM7.same s8
      obtain ⟨dx8, r8, q8, hat8, _⟩ := id hM8.at_
      refine ⟨_, rfl, x, dx8, _, rfl, hat8, x, sg, R, kk, rfl, hM8, fun H10 s10 => ⟨_, rfl, _, rfl, rfl, ?_⟩⟩
      rw [decide_eq_true (rfl : (V.str (spk sg R kk)) = _)]
      exact q _ (o7.trans (Off.of (s8.trans s10)))
end
end Lw
namespace Lw
open PySem PySem.Spec PyProof.Rows L3
open L2 hiding del del_same del_ne
section
variable {P : Program} {w : World} {K : PySem.W.Frag} {mg : Str → Option Value} {base : Heap}
theorem sq_off {a p : Addr} {xs : List V} {H H3 H' : Hp} (h : SqL K H a xs) (n : H p = none) (s : Same H H3) (o : Off p H3 H') : SqL K H' a xs := by
  rcases h with (h | ⟨o', h⟩) | h
  · exact .inl (.inl (o _ _ (s _ _ h) (ne_of_none h n)))
  · exact .inl (.inr ⟨o', o _ _ (s _ _ h) (ne_of_none h n)⟩)
  · exact .inr h
def spLaw (K : PySem.W.Frag) : Sp := fun vs H Q _ => ∃ (a : Addr) (ns : List Int), vs = [.ref a] ∧ SqL K H a (ns.map V.int) ∧ ∀ H', Q (.bl true) H'
theorem ok_law (T : All K mg) : FnOkG P w K mg base CX0 15 T.f_law T.d_law ["_law_script"] (spLaw K) := by
  refine okG T.law.F sc_law (fun vs H Q E h => ?_) (fun cdv A outer s H vs Q E hr hG h => ?_)
  · obtain ⟨a, ns, rfl, _⟩ := h
    rfl
  · obtain ⟨a, ns, rfl, hS, q⟩ := h
    refine ⟨_, pss_one (ps_ret (pe_callB (cr_all rfl) (by rfl) T.b_all PyProof.Rows.boot_all (pa_cons (pe_lc (own := [("_law_k", 1)]) (g := gName 1) (tt := tYes) rfl sc_law.nd (pi_range1 rfl T.b_range (pa_cons (pe_callB (call_max2 rfl) (by rfl) T.b_max PyProof.Rows.boot_max (pa_cons pe_int (pa_cons (pe_callB (call_min2 rfl) (by rfl) T.b_min PyProof.Rows.boot_min (pa_cons pe_int (pa_cons (pe_callB call_len_seq (by rfl) T.b_len PySem.boot_len (pa_cons (pv 0) pa_nil)) pa_nil))) pa_nil))) pa_nil))
          (blkOk_by (own := [("_law_k", 1)]) (N := ["_law_script", "_law_k"]) (sc := defScope s_law) (by decide +kernel))
          (fun _ _ _ _ _ => pg_name (i := 1) sc_law.nd rfl (by first | exact Or.inl rfl | exact Or.inr rfl)) (fun _ _ _ _ _ => pts_nil)
          (fun _ _ _ _ _ => (pe_callG (ok_law_right T) (hr.mono (by decide)) hG (by rfl) T.law_right.g T.law_right.F.kp T.law_right.b pass0 (pa_cons (pe_call (ok_law_pot T) (hr.mono (by decide)) (by rfl) T.law_pot.g T.law_pot.F.kp T.law_pot.b .nil pass0 (pa_cons (pv 0) (pa_cons (pv 1) pa_nil))) pa_nil)))) pa_nil))), ?_⟩
    refine ⟨_, rfl, a, _, rfl, .inl hS, _, _, rfl, _, _, rfl, ?_⟩
    refine ⟨_, rfl, ?_, ?_, fun D nD => ?_⟩
    · split <;> split <;> omega
    · split <;> split <;> omega
    have hn : ((if (if ((ns.map V.int).length : Int) < 4 then ((ns.map V.int).length : Int) else 4) > 1 then (if ((ns.map V.int).length : Int) < 4 then ((ns.map V.int).length : Int) else 4) else 1) : Int).toNat ≤ 4 := by
      split <;> split <;> omega
    have hAD : (∀ H', SqL K H' a (ns.map V.int)) ∨ a ≠ D := by
      rcases hS with (h | ⟨o', h⟩) | h
      · exact .inr (ne_of_none h nD)
      · exact .inr (ne_of_none h nD)
      · exact .inl fun H' => .inr h
    refine lc_gen2 walk_range (fun H' => SqL K H' a (ns.map V.int)) (fun i acc => acc = List.replicate i (.bl true)) ?_ (fun i acc e => by rw [e]; simp) rfl
      (sq_new hS nD) (fun H' acc acc' hD r => hAD.elim (fun h => h _) (fun n => sq_put r n)) (fun _ _ => trivial) (fun i x H7 H8 acc C N hi r hD ha y c n => ?_) (fun H7 xs r hD ha => ?_)
    · rw [sizeLine_eq]
      exact Nat.le_trans hn (by decide)
    · obtain ⟨rfl, rfl⟩ := y
      have hi2 : i < 4 := Nat.lt_of_lt_of_le hi hn
      refine ⟨rfl, yes_te ?_⟩
      refine ⟨_, rfl, _, rfl, a, ns, i, congrArg (fun z => [V.ref a, V.int z]) (Int.zero_add _), r, by omega, fun H9 p s9 n9 hp9 => ?_⟩
      refine ⟨p, rfl, hp9, fun H10 o10 => ?_⟩
      refine c _ _ (sq_off r n9 s9 o10) (o10 _ _ (s9 _ _ hD) (ne_of_none hD n9)) ?_
      rw [ha, List.replicate_succ']
    · subst ha
      refine ⟨D, List.replicate _ true, rfl, .inl (.inl (by rw [hD, List.map_replicate])), ?_⟩
      rw [all_id_rep]
      exact q _
theorem fin {P : Program} {w : World} {K : PySem.W.Frag} {mg mb : Str → Option Value} {fa fl a : Addr} {s₁ : Shared} {vs : List Value} {ns : List Int}
    (KX : K.In s₁.heap) (hns : s₁.heap.Ns mainGlobals mg) (hb : s₁.heap.Ns builtinsNs mb) (hbb : ∀ x : Str, x ≠ "__name__" → mb x = bootBuiltins x) (hlim : s₁.heap.NoLimit) (hg : s₁.gens = #[])
    (hbm : ∃ (bm : Addr) (ob : Obj), mg "__builtins__" = some (.ref bm) ∧ bm ≠ builtinsNs ∧ s₁.heap.get? bm = some ob ∧ ob.cls = .type "module" ∧ ob.dict = some builtinsNs ∧ ob.data = .plain)
    (ha : s₁.heap.get? a = some { cls := .type "list", data := .seq vs.toArray }) (hi : IntsAre vs ns) (hl : ns.length ≤ sizeLine) (hmg : mg "law" = some (.ref fa))
    (hall : ∃ T : All K mg, T.f_law = fl) :
    codeAny (model P w) callerA (.call (.ref fa) ⟨[.ref a], []⟩) (fun r s' => r = .ok (.ret (.bool true)) ∧ OldK s₁.heap s'.heap ∧ s'.os = s₁.os ∧ AllBare s'.gens) s₁ := by
  obtain ⟨T, _⟩ := hall
  have e : T.f_law = fa := by
    have h := T.law.g
    rw [hmg] at h
    exact (Value.ref.inj (Option.some.inj h)).symm
  rw [← e]
  refine law_callG (cs := []) (k := 15) (sp := spLaw K) KX hns hb hbb hlim hg (fun p hp => nomatch hp) (fun p hp => nomatch hp) (fun p hp => nomatch hp) hbm ha hi hl ⟨rfl, by decide, by decide⟩ (fun base hK hM TB => ok_law T) T.law.b (fun H hH hS => ?_)
  exact ⟨a, ns, rfl, hS, fun H' => rfl⟩
end
end Lw
namespace Lw
open PySem PySem.Spec PyProof.Rows L2 L3
theorem all_mk {K : PySem.W.Frag} {h : Heap} {mg : Str → Option Value} (X : K.In h) (G : h.Ns mainGlobals mg)
    {f_is_integer : Addr} {oc_is_integer kV_is_integer dc_is_integer pm_is_integer cd_is_integer ct_is_integer : Value} {od_is_integer an_is_integer : Option Addr} {sl_is_integer : Array (Option Value)}
    (a_is_integer : PySem.W.nsIn K mainGlobals "is_integer" = some (some (.ref f_is_integer))) (l_is_integer : K.lookup f_is_integer = some ⟨oc_is_integer, od_is_integer, .func (PySem.W.fnOf "is_integer" "is_integer" (defArgs s_is_integer) (defBody s_is_integer) (defScope s_is_integer) .none kV_is_integer dc_is_integer pm_is_integer an_is_integer cd_is_integer ct_is_integer), sl_is_integer⟩) (e_is_integer : PySem.W.codeIn K cd_is_integer "is_integer" = true) (k_is_integer : PySem.W.keepIn K (.ref f_is_integer) = true)
    {f_is_list : Addr} {oc_is_list kV_is_list dc_is_list pm_is_list cd_is_list ct_is_list : Value} {od_is_list an_is_list : Option Addr} {sl_is_list : Array (Option Value)}
    (a_is_list : PySem.W.nsIn K mainGlobals "is_list" = some (some (.ref f_is_list))) (l_is_list : K.lookup f_is_list = some ⟨oc_is_list, od_is_list, .func (PySem.W.fnOf "is_list" "is_list" (defArgs s_is_list) (defBody s_is_list) (defScope s_is_list) .none kV_is_list dc_is_list pm_is_list an_is_list cd_is_list ct_is_list), sl_is_list⟩) (e_is_list : PySem.W.codeIn K cd_is_list "is_list" = true) (k_is_list : PySem.W.keepIn K (.ref f_is_list) = true)
    {f_is_text : Addr} {oc_is_text kV_is_text dc_is_text pm_is_text cd_is_text ct_is_text : Value} {od_is_text an_is_text : Option Addr} {sl_is_text : Array (Option Value)}
    (a_is_text : PySem.W.nsIn K mainGlobals "is_text" = some (some (.ref f_is_text))) (l_is_text : K.lookup f_is_text = some ⟨oc_is_text, od_is_text, .func (PySem.W.fnOf "is_text" "is_text" (defArgs s_is_text) (defBody s_is_text) (defScope s_is_text) .none kV_is_text dc_is_text pm_is_text an_is_text cd_is_text ct_is_text), sl_is_text⟩) (e_is_text : PySem.W.codeIn K cd_is_text "is_text" = true) (k_is_text : PySem.W.keepIn K (.ref f_is_text) = true)
    {f_are_letters : Addr} {oc_are_letters kV_are_letters dc_are_letters pm_are_letters cd_are_letters ct_are_letters : Value} {od_are_letters an_are_letters : Option Addr} {sl_are_letters : Array (Option Value)}
    (a_are_letters : PySem.W.nsIn K mainGlobals "are_letters" = some (some (.ref f_are_letters))) (l_are_letters : K.lookup f_are_letters = some ⟨oc_are_letters, od_are_letters, .func (PySem.W.fnOf "are_letters" "are_letters" (defArgs s_are_letters) (defBody s_are_letters) (defScope s_are_letters) .none kV_are_letters dc_are_letters pm_are_letters an_are_letters cd_are_letters ct_are_letters), sl_are_letters⟩) (e_are_letters : PySem.W.codeIn K cd_are_letters "are_letters" = true) (k_are_letters : PySem.W.keepIn K (.ref f_are_letters) = true)
    {f_is_text_over : Addr} {oc_is_text_over kV_is_text_over dc_is_text_over pm_is_text_over cd_is_text_over ct_is_text_over : Value} {od_is_text_over an_is_text_over : Option Addr} {sl_is_text_over : Array (Option Value)}
    (a_is_text_over : PySem.W.nsIn K mainGlobals "is_text_over" = some (some (.ref f_is_text_over))) (l_is_text_over : K.lookup f_is_text_over = some ⟨oc_is_text_over, od_is_text_over, .func (PySem.W.fnOf "is_text_over" "is_text_over" (defArgs s_is_text_over) (defBody s_is_text_over) (defScope s_is_text_over) .none kV_is_text_over dc_is_text_over pm_is_text_over an_is_text_over cd_is_text_over ct_is_text_over), sl_is_text_over⟩) (e_is_text_over : PySem.W.codeIn K cd_is_text_over "is_text_over" = true) (k_is_text_over : PySem.W.keepIn K (.ref f_is_text_over) = true)
    {f_want_few : Addr} {oc_want_few kV_want_few dc_want_few pm_want_few cd_want_few ct_want_few : Value} {od_want_few an_want_few : Option Addr} {sl_want_few : Array (Option Value)}
    (a_want_few : PySem.W.nsIn K mainGlobals "want_few" = some (some (.ref f_want_few))) (l_want_few : K.lookup f_want_few = some ⟨oc_want_few, od_want_few, .func (PySem.W.fnOf "want_few" "want_few" (defArgs s_want_few) (defBody s_want_few) (defScope s_want_few) .none kV_want_few dc_want_few pm_want_few an_want_few cd_want_few ct_want_few), sl_want_few⟩) (e_want_few : PySem.W.codeIn K cd_want_few "want_few" = true) (k_want_few : PySem.W.keepIn K (.ref f_want_few) = true)
    {f_is_row : Addr} {oc_is_row kV_is_row dc_is_row pm_is_row cd_is_row ct_is_row : Value} {od_is_row an_is_row : Option Addr} {sl_is_row : Array (Option Value)}
    (a_is_row : PySem.W.nsIn K mainGlobals "is_row" = some (some (.ref f_is_row))) (l_is_row : K.lookup f_is_row = some ⟨oc_is_row, od_is_row, .func (PySem.W.fnOf "is_row" "is_row" (defArgs s_is_row) (defBody s_is_row) (defScope s_is_row) .none kV_is_row dc_is_row pm_is_row an_is_row cd_is_row ct_is_row), sl_is_row⟩) (e_is_row : PySem.W.codeIn K cd_is_row "is_row" = true) (k_is_row : PySem.W.keepIn K (.ref f_is_row) = true)
    {f_want_machine : Addr} {oc_want_machine kV_want_machine dc_want_machine pm_want_machine cd_want_machine ct_want_machine : Value} {od_want_machine an_want_machine : Option Addr} {sl_want_machine : Array (Option Value)}
    (a_want_machine : PySem.W.nsIn K mainGlobals "want_machine" = some (some (.ref f_want_machine))) (l_want_machine : K.lookup f_want_machine = some ⟨oc_want_machine, od_want_machine, .func (PySem.W.fnOf "want_machine" "want_machine" (defArgs s_want_machine) (defBody s_want_machine) (defScope s_want_machine) .none kV_want_machine dc_want_machine pm_want_machine an_want_machine cd_want_machine ct_want_machine), sl_want_machine⟩) (e_want_machine : PySem.W.codeIn K cd_want_machine "want_machine" = true) (k_want_machine : PySem.W.keepIn K (.ref f_want_machine) = true)
    {f_met_from : Addr} {oc_met_from kV_met_from dc_met_from pm_met_from cd_met_from ct_met_from : Value} {od_met_from an_met_from : Option Addr} {sl_met_from : Array (Option Value)}
    (a_met_from : PySem.W.nsIn K mainGlobals "met_from" = some (some (.ref f_met_from))) (l_met_from : K.lookup f_met_from = some ⟨oc_met_from, od_met_from, .func (PySem.W.fnOf "met_from" "met_from" (defArgs s_met_from) (defBody s_met_from) (defScope s_met_from) .none kV_met_from dc_met_from pm_met_from an_met_from cd_met_from ct_met_from), sl_met_from⟩) (e_met_from : PySem.W.codeIn K cd_met_from "met_from" = true) (k_met_from : PySem.W.keepIn K (.ref f_met_from) = true)
    {f_want_places : Addr} {oc_want_places kV_want_places dc_want_places pm_want_places cd_want_places ct_want_places : Value} {od_want_places an_want_places : Option Addr} {sl_want_places : Array (Option Value)}
    (a_want_places : PySem.W.nsIn K mainGlobals "want_places" = some (some (.ref f_want_places))) (l_want_places : K.lookup f_want_places = some ⟨oc_want_places, od_want_places, .func (PySem.W.fnOf "want_places" "want_places" (defArgs s_want_places) (defBody s_want_places) (defScope s_want_places) .none kV_want_places dc_want_places pm_want_places an_want_places cd_want_places ct_want_places), sl_want_places⟩) (e_want_places : PySem.W.codeIn K cd_want_places "want_places" = true) (k_want_places : PySem.W.keepIn K (.ref f_want_places) = true)
    {f_led : Addr} {oc_led kV_led dc_led pm_led cd_led ct_led : Value} {od_led an_led : Option Addr} {sl_led : Array (Option Value)}
    (a_led : PySem.W.nsIn K mainGlobals "led" = some (some (.ref f_led))) (l_led : K.lookup f_led = some ⟨oc_led, od_led, .func (PySem.W.fnOf "led" "led" (defArgs s_led) (defBody s_led) (defScope s_led) .none kV_led dc_led pm_led an_led cd_led ct_led), sl_led⟩) (e_led : PySem.W.codeIn K cd_led "led" = true) (k_led : PySem.W.keepIn K (.ref f_led) = true)
    {f_is_taken : Addr} {oc_is_taken kV_is_taken dc_is_taken pm_is_taken cd_is_taken ct_is_taken : Value} {od_is_taken an_is_taken : Option Addr} {sl_is_taken : Array (Option Value)}
    (a_is_taken : PySem.W.nsIn K mainGlobals "is_taken" = some (some (.ref f_is_taken))) (l_is_taken : K.lookup f_is_taken = some ⟨oc_is_taken, od_is_taken, .func (PySem.W.fnOf "is_taken" "is_taken" (defArgs s_is_taken) (defBody s_is_taken) (defScope s_is_taken) .none kV_is_taken dc_is_taken pm_is_taken an_is_taken cd_is_taken ct_is_taken), sl_is_taken⟩) (e_is_taken : PySem.W.codeIn K cd_is_taken "is_taken" = true) (k_is_taken : PySem.W.keepIn K (.ref f_is_taken) = true)
    {f_want_texts_parts : Addr} {oc_want_texts_parts kV_want_texts_parts dc_want_texts_parts pm_want_texts_parts cd_want_texts_parts ct_want_texts_parts : Value} {od_want_texts_parts an_want_texts_parts : Option Addr} {sl_want_texts_parts : Array (Option Value)}
    (a_want_texts_parts : PySem.W.nsIn K mainGlobals "want_texts_parts" = some (some (.ref f_want_texts_parts))) (l_want_texts_parts : K.lookup f_want_texts_parts = some ⟨oc_want_texts_parts, od_want_texts_parts, .func (PySem.W.fnOf "want_texts" "want_texts" (defArgs s_want_texts_parts) (defBody s_want_texts_parts) (defScope s_want_texts_parts) .none kV_want_texts_parts dc_want_texts_parts pm_want_texts_parts an_want_texts_parts cd_want_texts_parts ct_want_texts_parts), sl_want_texts_parts⟩) (e_want_texts_parts : PySem.W.codeIn K cd_want_texts_parts "want_texts" = true) (k_want_texts_parts : PySem.W.keepIn K (.ref f_want_texts_parts) = true)
    {f_is_part_of : Addr} {oc_is_part_of kV_is_part_of dc_is_part_of pm_is_part_of cd_is_part_of ct_is_part_of : Value} {od_is_part_of an_is_part_of : Option Addr} {sl_is_part_of : Array (Option Value)}
    (a_is_part_of : PySem.W.nsIn K mainGlobals "is_part_of" = some (some (.ref f_is_part_of))) (l_is_part_of : K.lookup f_is_part_of = some ⟨oc_is_part_of, od_is_part_of, .func (PySem.W.fnOf "is_part_of" "is_part_of" (defArgs s_is_part_of) (defBody s_is_part_of) (defScope s_is_part_of) .none kV_is_part_of dc_is_part_of pm_is_part_of an_is_part_of cd_is_part_of ct_is_part_of), sl_is_part_of⟩) (e_is_part_of : PySem.W.codeIn K cd_is_part_of "is_part_of" = true) (k_is_part_of : PySem.W.keepIn K (.ref f_is_part_of) = true)
    {f_is_part : Addr} {oc_is_part kV_is_part dc_is_part pm_is_part cd_is_part ct_is_part : Value} {od_is_part an_is_part : Option Addr} {sl_is_part : Array (Option Value)}
    (a_is_part : PySem.W.nsIn K mainGlobals "is_part" = some (some (.ref f_is_part))) (l_is_part : K.lookup f_is_part = some ⟨oc_is_part, od_is_part, .func (PySem.W.fnOf "is_part" "is_part" (defArgs s_is_part) (defBody s_is_part) (defScope s_is_part) .none kV_is_part dc_is_part pm_is_part an_is_part cd_is_part ct_is_part), sl_is_part⟩) (e_is_part : PySem.W.codeIn K cd_is_part "is_part" = true) (k_is_part : PySem.W.keepIn K (.ref f_is_part) = true)
    {f_is_star : Addr} {oc_is_star kV_is_star dc_is_star pm_is_star cd_is_star ct_is_star : Value} {od_is_star an_is_star : Option Addr} {sl_is_star : Array (Option Value)}
    (a_is_star : PySem.W.nsIn K mainGlobals "is_star" = some (some (.ref f_is_star))) (l_is_star : K.lookup f_is_star = some ⟨oc_is_star, od_is_star, .func (PySem.W.fnOf "is_star" "is_star" (defArgs s_is_star) (defBody s_is_star) (defScope s_is_star) .none kV_is_star dc_is_star pm_is_star an_is_star cd_is_star ct_is_star), sl_is_star⟩) (e_is_star : PySem.W.codeIn K cd_is_star "is_star" = true) (k_is_star : PySem.W.keepIn K (.ref f_is_star) = true)
    {f_letters_in : Addr} {oc_letters_in kV_letters_in dc_letters_in pm_letters_in cd_letters_in ct_letters_in : Value} {od_letters_in an_letters_in : Option Addr} {sl_letters_in : Array (Option Value)}
    (a_letters_in : PySem.W.nsIn K mainGlobals "letters_in" = some (some (.ref f_letters_in))) (l_letters_in : K.lookup f_letters_in = some ⟨oc_letters_in, od_letters_in, .func (PySem.W.fnOf "letters_in" "letters_in" (defArgs s_letters_in) (defBody s_letters_in) (defScope s_letters_in) .none kV_letters_in dc_letters_in pm_letters_in an_letters_in cd_letters_in ct_letters_in), sl_letters_in⟩) (e_letters_in : PySem.W.codeIn K cd_letters_in "letters_in" = true) (k_letters_in : PySem.W.keepIn K (.ref f_letters_in) = true)
    {f_are_rising : Addr} {oc_are_rising kV_are_rising dc_are_rising pm_are_rising cd_are_rising ct_are_rising : Value} {od_are_rising an_are_rising : Option Addr} {sl_are_rising : Array (Option Value)}
    (a_are_rising : PySem.W.nsIn K mainGlobals "are_rising" = some (some (.ref f_are_rising))) (l_are_rising : K.lookup f_are_rising = some ⟨oc_are_rising, od_are_rising, .func (PySem.W.fnOf "are_rising" "are_rising" (defArgs s_are_rising) (defBody s_are_rising) (defScope s_are_rising) .none kV_are_rising dc_are_rising pm_are_rising an_are_rising cd_are_rising ct_are_rising), sl_are_rising⟩) (e_are_rising : PySem.W.codeIn K cd_are_rising "are_rising" = true) (k_are_rising : PySem.W.keepIn K (.ref f_are_rising) = true)
    {f_is_piece : Addr} {oc_is_piece kV_is_piece dc_is_piece pm_is_piece cd_is_piece ct_is_piece : Value} {od_is_piece an_is_piece : Option Addr} {sl_is_piece : Array (Option Value)}
    (a_is_piece : PySem.W.nsIn K mainGlobals "is_piece" = some (some (.ref f_is_piece))) (l_is_piece : K.lookup f_is_piece = some ⟨oc_is_piece, od_is_piece, .func (PySem.W.fnOf "is_piece" "is_piece" (defArgs s_is_piece) (defBody s_is_piece) (defScope s_is_piece) .none kV_is_piece dc_is_piece pm_is_piece an_is_piece cd_is_piece ct_is_piece), sl_is_piece⟩) (e_is_piece : PySem.W.codeIn K cd_is_piece "is_piece" = true) (k_is_piece : PySem.W.keepIn K (.ref f_is_piece) = true)
    {f_is_product : Addr} {oc_is_product kV_is_product dc_is_product pm_is_product cd_is_product ct_is_product : Value} {od_is_product an_is_product : Option Addr} {sl_is_product : Array (Option Value)}
    (a_is_product : PySem.W.nsIn K mainGlobals "is_product" = some (some (.ref f_is_product))) (l_is_product : K.lookup f_is_product = some ⟨oc_is_product, od_is_product, .func (PySem.W.fnOf "is_product" "is_product" (defArgs s_is_product) (defBody s_is_product) (defScope s_is_product) .none kV_is_product dc_is_product pm_is_product an_is_product cd_is_product ct_is_product), sl_is_product⟩) (e_is_product : PySem.W.codeIn K cd_is_product "is_product" = true) (k_is_product : PySem.W.keepIn K (.ref f_is_product) = true)
    {f_is_product_over : Addr} {oc_is_product_over kV_is_product_over dc_is_product_over pm_is_product_over cd_is_product_over ct_is_product_over : Value} {od_is_product_over an_is_product_over : Option Addr} {sl_is_product_over : Array (Option Value)}
    (a_is_product_over : PySem.W.nsIn K mainGlobals "is_product_over" = some (some (.ref f_is_product_over))) (l_is_product_over : K.lookup f_is_product_over = some ⟨oc_is_product_over, od_is_product_over, .func (PySem.W.fnOf "is_product_over" "is_product_over" (defArgs s_is_product_over) (defBody s_is_product_over) (defScope s_is_product_over) .none kV_is_product_over dc_is_product_over pm_is_product_over an_is_product_over cd_is_product_over ct_is_product_over), sl_is_product_over⟩) (e_is_product_over : PySem.W.codeIn K cd_is_product_over "is_product_over" = true) (k_is_product_over : PySem.W.keepIn K (.ref f_is_product_over) = true)
    {f_holds : Addr} {oc_holds kV_holds dc_holds pm_holds cd_holds ct_holds : Value} {od_holds an_holds : Option Addr} {sl_holds : Array (Option Value)}
    (a_holds : PySem.W.nsIn K mainGlobals "holds" = some (some (.ref f_holds))) (l_holds : K.lookup f_holds = some ⟨oc_holds, od_holds, .func (PySem.W.fnOf "holds" "holds" (defArgs s_holds) (defBody s_holds) (defScope s_holds) .none kV_holds dc_holds pm_holds an_holds cd_holds ct_holds), sl_holds⟩) (e_holds : PySem.W.codeIn K cd_holds "holds" = true) (k_holds : PySem.W.keepIn K (.ref f_holds) = true)
    {f_place_behind : Addr} {oc_place_behind kV_place_behind dc_place_behind pm_place_behind cd_place_behind ct_place_behind : Value} {od_place_behind an_place_behind : Option Addr} {sl_place_behind : Array (Option Value)}
    (a_place_behind : PySem.W.nsIn K mainGlobals "place_behind" = some (some (.ref f_place_behind))) (l_place_behind : K.lookup f_place_behind = some ⟨oc_place_behind, od_place_behind, .func (PySem.W.fnOf "place_behind" "place_behind" (defArgs s_place_behind) (defBody s_place_behind) (defScope s_place_behind) .none kV_place_behind dc_place_behind pm_place_behind an_place_behind cd_place_behind ct_place_behind), sl_place_behind⟩) (e_place_behind : PySem.W.codeIn K cd_place_behind "place_behind" = true) (k_place_behind : PySem.W.keepIn K (.ref f_place_behind) = true)
    {f_place_by : Addr} {oc_place_by kV_place_by dc_place_by pm_place_by cd_place_by ct_place_by : Value} {od_place_by an_place_by : Option Addr} {sl_place_by : Array (Option Value)}
    (a_place_by : PySem.W.nsIn K mainGlobals "place_by" = some (some (.ref f_place_by))) (l_place_by : K.lookup f_place_by = some ⟨oc_place_by, od_place_by, .func (PySem.W.fnOf "place_by" "place_by" (defArgs s_place_by) (defBody s_place_by) (defScope s_place_by) .none kV_place_by dc_place_by pm_place_by an_place_by cd_place_by ct_place_by), sl_place_by⟩) (e_place_by : PySem.W.codeIn K cd_place_by "place_by" = true) (k_place_by : PySem.W.keepIn K (.ref f_place_by) = true)
    {f_has_text : Addr} {oc_has_text kV_has_text dc_has_text pm_has_text cd_has_text ct_has_text : Value} {od_has_text an_has_text : Option Addr} {sl_has_text : Array (Option Value)}
    (a_has_text : PySem.W.nsIn K mainGlobals "has_text" = some (some (.ref f_has_text))) (l_has_text : K.lookup f_has_text = some ⟨oc_has_text, od_has_text, .func (PySem.W.fnOf "has_text" "has_text" (defArgs s_has_text) (defBody s_has_text) (defScope s_has_text) .none kV_has_text dc_has_text pm_has_text an_has_text cd_has_text ct_has_text), sl_has_text⟩) (e_has_text : PySem.W.codeIn K cd_has_text "has_text" = true) (k_has_text : PySem.W.keepIn K (.ref f_has_text) = true)
    {f_lies_within : Addr} {oc_lies_within kV_lies_within dc_lies_within pm_lies_within cd_lies_within ct_lies_within : Value} {od_lies_within an_lies_within : Option Addr} {sl_lies_within : Array (Option Value)}
    (a_lies_within : PySem.W.nsIn K mainGlobals "lies_within" = some (some (.ref f_lies_within))) (l_lies_within : K.lookup f_lies_within = some ⟨oc_lies_within, od_lies_within, .func (PySem.W.fnOf "lies_within" "lies_within" (defArgs s_lies_within) (defBody s_lies_within) (defScope s_lies_within) .none kV_lies_within dc_lies_within pm_lies_within an_lies_within cd_lies_within ct_lies_within), sl_lies_within⟩) (e_lies_within : PySem.W.codeIn K cd_lies_within "lies_within" = true) (k_lies_within : PySem.W.keepIn K (.ref f_lies_within) = true)
    {f_reduced_of : Addr} {oc_reduced_of kV_reduced_of dc_reduced_of pm_reduced_of cd_reduced_of ct_reduced_of : Value} {od_reduced_of an_reduced_of : Option Addr} {sl_reduced_of : Array (Option Value)}
    (a_reduced_of : PySem.W.nsIn K mainGlobals "reduced_of" = some (some (.ref f_reduced_of))) (l_reduced_of : K.lookup f_reduced_of = some ⟨oc_reduced_of, od_reduced_of, .func (PySem.W.fnOf "reduced_of" "reduced_of" (defArgs s_reduced_of) (defBody s_reduced_of) (defScope s_reduced_of) .none kV_reduced_of dc_reduced_of pm_reduced_of an_reduced_of cd_reduced_of ct_reduced_of), sl_reduced_of⟩) (e_reduced_of : PySem.W.codeIn K cd_reduced_of "reduced_of" = true) (k_reduced_of : PySem.W.keepIn K (.ref f_reduced_of) = true)
    {f_kept_of : Addr} {oc_kept_of kV_kept_of dc_kept_of pm_kept_of cd_kept_of ct_kept_of : Value} {od_kept_of an_kept_of : Option Addr} {sl_kept_of : Array (Option Value)}
    (a_kept_of : PySem.W.nsIn K mainGlobals "kept_of" = some (some (.ref f_kept_of))) (l_kept_of : K.lookup f_kept_of = some ⟨oc_kept_of, od_kept_of, .func (PySem.W.fnOf "kept_of" "kept_of" (defArgs s_kept_of) (defBody s_kept_of) (defScope s_kept_of) .none kV_kept_of dc_kept_of pm_kept_of an_kept_of cd_kept_of ct_kept_of), sl_kept_of⟩) (e_kept_of : PySem.W.codeIn K cd_kept_of "kept_of" = true) (k_kept_of : PySem.W.keepIn K (.ref f_kept_of) = true)
    {f_sum_of : Addr} {oc_sum_of kV_sum_of dc_sum_of pm_sum_of cd_sum_of ct_sum_of : Value} {od_sum_of an_sum_of : Option Addr} {sl_sum_of : Array (Option Value)}
    (a_sum_of : PySem.W.nsIn K mainGlobals "sum_of" = some (some (.ref f_sum_of))) (l_sum_of : K.lookup f_sum_of = some ⟨oc_sum_of, od_sum_of, .func (PySem.W.fnOf "sum_of" "sum_of" (defArgs s_sum_of) (defBody s_sum_of) (defScope s_sum_of) .none kV_sum_of dc_sum_of pm_sum_of an_sum_of cd_sum_of ct_sum_of), sl_sum_of⟩) (e_sum_of : PySem.W.codeIn K cd_sum_of "sum_of" = true) (k_sum_of : PySem.W.keepIn K (.ref f_sum_of) = true)
    {f_want_letters : Addr} {oc_want_letters kV_want_letters dc_want_letters pm_want_letters cd_want_letters ct_want_letters : Value} {od_want_letters an_want_letters : Option Addr} {sl_want_letters : Array (Option Value)}
    (a_want_letters : PySem.W.nsIn K mainGlobals "want_letters" = some (some (.ref f_want_letters))) (l_want_letters : K.lookup f_want_letters = some ⟨oc_want_letters, od_want_letters, .func (PySem.W.fnOf "want_letters" "want_letters" (defArgs s_want_letters) (defBody s_want_letters) (defScope s_want_letters) .none kV_want_letters dc_want_letters pm_want_letters an_want_letters cd_want_letters ct_want_letters), sl_want_letters⟩) (e_want_letters : PySem.W.codeIn K cd_want_letters "want_letters" = true) (k_want_letters : PySem.W.keepIn K (.ref f_want_letters) = true)
    {f_least_taken : Addr} {oc_least_taken kV_least_taken dc_least_taken pm_least_taken cd_least_taken ct_least_taken : Value} {od_least_taken an_least_taken : Option Addr} {sl_least_taken : Array (Option Value)}
    (a_least_taken : PySem.W.nsIn K mainGlobals "least_taken" = some (some (.ref f_least_taken))) (l_least_taken : K.lookup f_least_taken = some ⟨oc_least_taken, od_least_taken, .func (PySem.W.fnOf "least_taken" "least_taken" (defArgs s_least_taken) (defBody s_least_taken) (defScope s_least_taken) .none kV_least_taken dc_least_taken pm_least_taken an_least_taken cd_least_taken ct_least_taken), sl_least_taken⟩) (e_least_taken : PySem.W.codeIn K cd_least_taken "least_taken" = true) (k_least_taken : PySem.W.keepIn K (.ref f_least_taken) = true)
    {f_up : Addr} {oc_up kV_up dc_up pm_up cd_up ct_up : Value} {od_up an_up : Option Addr} {sl_up : Array (Option Value)}
    (a_up : PySem.W.nsIn K mainGlobals "up" = some (some (.ref f_up))) (l_up : K.lookup f_up = some ⟨oc_up, od_up, .func (PySem.W.fnOf "up" "up" (defArgs s_up) (defBody s_up) (defScope s_up) .none kV_up dc_up pm_up an_up cd_up ct_up), sl_up⟩) (e_up : PySem.W.codeIn K cd_up "up" = true) (k_up : PySem.W.keepIn K (.ref f_up) = true)
    {f_sure_parts : Addr} {oc_sure_parts kV_sure_parts dc_sure_parts pm_sure_parts cd_sure_parts ct_sure_parts : Value} {od_sure_parts an_sure_parts : Option Addr} {sl_sure_parts : Array (Option Value)}
    (a_sure_parts : PySem.W.nsIn K mainGlobals "sure_parts" = some (some (.ref f_sure_parts))) (l_sure_parts : K.lookup f_sure_parts = some ⟨oc_sure_parts, od_sure_parts, .func (PySem.W.fnOf "sure_parts" "sure_parts" (defArgs s_sure_parts) (defBody s_sure_parts) (defScope s_sure_parts) .none kV_sure_parts dc_sure_parts pm_sure_parts an_sure_parts cd_sure_parts ct_sure_parts), sl_sure_parts⟩) (e_sure_parts : PySem.W.codeIn K cd_sure_parts "sure_parts" = true) (k_sure_parts : PySem.W.keepIn K (.ref f_sure_parts) = true)
    {f_law_pot : Addr} {oc_law_pot kV_law_pot dc_law_pot pm_law_pot cd_law_pot ct_law_pot : Value} {od_law_pot an_law_pot : Option Addr} {sl_law_pot : Array (Option Value)}
    (a_law_pot : PySem.W.nsIn K mainGlobals "_law_pot" = some (some (.ref f_law_pot))) (l_law_pot : K.lookup f_law_pot = some ⟨oc_law_pot, od_law_pot, .func (PySem.W.fnOf "_law_pot" "_law_pot" (defArgs s_law_pot) (defBody s_law_pot) (defScope s_law_pot) .none kV_law_pot dc_law_pot pm_law_pot an_law_pot cd_law_pot ct_law_pot), sl_law_pot⟩) (e_law_pot : PySem.W.codeIn K cd_law_pot "_law_pot" = true) (k_law_pot : PySem.W.keepIn K (.ref f_law_pot) = true)
    {f_law_draw : Addr} {oc_law_draw kV_law_draw dc_law_draw pm_law_draw cd_law_draw ct_law_draw : Value} {od_law_draw an_law_draw : Option Addr} {sl_law_draw : Array (Option Value)}
    (a_law_draw : PySem.W.nsIn K mainGlobals "_law_draw" = some (some (.ref f_law_draw))) (l_law_draw : K.lookup f_law_draw = some ⟨oc_law_draw, od_law_draw, .func (PySem.W.fnOf "_law_draw" "_law_draw" (defArgs s_law_draw) (defBody s_law_draw) (defScope s_law_draw) .none kV_law_draw dc_law_draw pm_law_draw an_law_draw cd_law_draw ct_law_draw), sl_law_draw⟩) (e_law_draw : PySem.W.codeIn K cd_law_draw "_law_draw" = true) (k_law_draw : PySem.W.keepIn K (.ref f_law_draw) = true)
    {f_law_pick : Addr} {oc_law_pick kV_law_pick dc_law_pick pm_law_pick cd_law_pick ct_law_pick : Value} {od_law_pick an_law_pick : Option Addr} {sl_law_pick : Array (Option Value)}
    (a_law_pick : PySem.W.nsIn K mainGlobals "_law_pick" = some (some (.ref f_law_pick))) (l_law_pick : K.lookup f_law_pick = some ⟨oc_law_pick, od_law_pick, .func (PySem.W.fnOf "_law_pick" "_law_pick" (defArgs s_law_pick) (defBody s_law_pick) (defScope s_law_pick) .none kV_law_pick dc_law_pick pm_law_pick an_law_pick cd_law_pick ct_law_pick), sl_law_pick⟩) (e_law_pick : PySem.W.codeIn K cd_law_pick "_law_pick" = true) (k_law_pick : PySem.W.keepIn K (.ref f_law_pick) = true)
    {f_law_mixed : Addr} {oc_law_mixed kV_law_mixed dc_law_mixed pm_law_mixed cd_law_mixed ct_law_mixed : Value} {od_law_mixed an_law_mixed : Option Addr} {sl_law_mixed : Array (Option Value)}
    (a_law_mixed : PySem.W.nsIn K mainGlobals "_law_mixed" = some (some (.ref f_law_mixed))) (l_law_mixed : K.lookup f_law_mixed = some ⟨oc_law_mixed, od_law_mixed, .func (PySem.W.fnOf "_law_mixed" "_law_mixed" (defArgs s_law_mixed) (defBody s_law_mixed) (defScope s_law_mixed) .none kV_law_mixed dc_law_mixed pm_law_mixed an_law_mixed cd_law_mixed ct_law_mixed), sl_law_mixed⟩) (e_law_mixed : PySem.W.codeIn K cd_law_mixed "_law_mixed" = true) (k_law_mixed : PySem.W.keepIn K (.ref f_law_mixed) = true)
    {f_law_rows : Addr} {oc_law_rows kV_law_rows dc_law_rows pm_law_rows cd_law_rows ct_law_rows : Value} {od_law_rows an_law_rows : Option Addr} {sl_law_rows : Array (Option Value)}
    (a_law_rows : PySem.W.nsIn K mainGlobals "_law_rows" = some (some (.ref f_law_rows))) (l_law_rows : K.lookup f_law_rows = some ⟨oc_law_rows, od_law_rows, .func (PySem.W.fnOf "_law_rows" "_law_rows" (defArgs s_law_rows) (defBody s_law_rows) (defScope s_law_rows) .none kV_law_rows dc_law_rows pm_law_rows an_law_rows cd_law_rows ct_law_rows), sl_law_rows⟩) (e_law_rows : PySem.W.codeIn K cd_law_rows "_law_rows" = true) (k_law_rows : PySem.W.keepIn K (.ref f_law_rows) = true)
    {f_law_kinds : Addr} {oc_law_kinds kV_law_kinds dc_law_kinds pm_law_kinds cd_law_kinds ct_law_kinds : Value} {od_law_kinds an_law_kinds : Option Addr} {sl_law_kinds : Array (Option Value)}
    (a_law_kinds : PySem.W.nsIn K mainGlobals "_law_kinds" = some (some (.ref f_law_kinds))) (l_law_kinds : K.lookup f_law_kinds = some ⟨oc_law_kinds, od_law_kinds, .func (PySem.W.fnOf "_law_kinds" "_law_kinds" (defArgs s_law_kinds) (defBody s_law_kinds) (defScope s_law_kinds) .none kV_law_kinds dc_law_kinds pm_law_kinds an_law_kinds cd_law_kinds ct_law_kinds), sl_law_kinds⟩) (e_law_kinds : PySem.W.codeIn K cd_law_kinds "_law_kinds" = true) (k_law_kinds : PySem.W.keepIn K (.ref f_law_kinds) = true)
    {f_law_is_star : Addr} {oc_law_is_star kV_law_is_star dc_law_is_star pm_law_is_star cd_law_is_star ct_law_is_star : Value} {od_law_is_star an_law_is_star : Option Addr} {sl_law_is_star : Array (Option Value)}
    (a_law_is_star : PySem.W.nsIn K mainGlobals "_law_is_star" = some (some (.ref f_law_is_star))) (l_law_is_star : K.lookup f_law_is_star = some ⟨oc_law_is_star, od_law_is_star, .func (PySem.W.fnOf "_law_is_star" "_law_is_star" (defArgs s_law_is_star) (defBody s_law_is_star) (defScope s_law_is_star) .none kV_law_is_star dc_law_is_star pm_law_is_star an_law_is_star cd_law_is_star ct_law_is_star), sl_law_is_star⟩) (e_law_is_star : PySem.W.codeIn K cd_law_is_star "_law_is_star" = true) (k_law_is_star : PySem.W.keepIn K (.ref f_law_is_star) = true)
    {f_law_fits : Addr} {oc_law_fits kV_law_fits dc_law_fits pm_law_fits cd_law_fits ct_law_fits : Value} {od_law_fits an_law_fits : Option Addr} {sl_law_fits : Array (Option Value)}
    (a_law_fits : PySem.W.nsIn K mainGlobals "_law_fits" = some (some (.ref f_law_fits))) (l_law_fits : K.lookup f_law_fits = some ⟨oc_law_fits, od_law_fits, .func (PySem.W.fnOf "_law_fits" "_law_fits" (defArgs s_law_fits) (defBody s_law_fits) (defScope s_law_fits) .none kV_law_fits dc_law_fits pm_law_fits an_law_fits cd_law_fits ct_law_fits), sl_law_fits⟩) (e_law_fits : PySem.W.codeIn K cd_law_fits "_law_fits" = true) (k_law_fits : PySem.W.keepIn K (.ref f_law_fits) = true)
    {f_law_within : Addr} {oc_law_within kV_law_within dc_law_within pm_law_within cd_law_within ct_law_within : Value} {od_law_within an_law_within : Option Addr} {sl_law_within : Array (Option Value)}
    (a_law_within : PySem.W.nsIn K mainGlobals "_law_within" = some (some (.ref f_law_within))) (l_law_within : K.lookup f_law_within = some ⟨oc_law_within, od_law_within, .func (PySem.W.fnOf "_law_within" "_law_within" (defArgs s_law_within) (defBody s_law_within) (defScope s_law_within) .none kV_law_within dc_law_within pm_law_within an_law_within cd_law_within ct_law_within), sl_law_within⟩) (e_law_within : PySem.W.codeIn K cd_law_within "_law_within" = true) (k_law_within : PySem.W.keepIn K (.ref f_law_within) = true)
    {f_law_reduced : Addr} {oc_law_reduced kV_law_reduced dc_law_reduced pm_law_reduced cd_law_reduced ct_law_reduced : Value} {od_law_reduced an_law_reduced : Option Addr} {sl_law_reduced : Array (Option Value)}
    (a_law_reduced : PySem.W.nsIn K mainGlobals "_law_reduced" = some (some (.ref f_law_reduced))) (l_law_reduced : K.lookup f_law_reduced = some ⟨oc_law_reduced, od_law_reduced, .func (PySem.W.fnOf "_law_reduced" "_law_reduced" (defArgs s_law_reduced) (defBody s_law_reduced) (defScope s_law_reduced) .none kV_law_reduced dc_law_reduced pm_law_reduced an_law_reduced cd_law_reduced ct_law_reduced), sl_law_reduced⟩) (e_law_reduced : PySem.W.codeIn K cd_law_reduced "_law_reduced" = true) (k_law_reduced : PySem.W.keepIn K (.ref f_law_reduced) = true)
    {f_law_kept : Addr} {oc_law_kept kV_law_kept dc_law_kept pm_law_kept cd_law_kept ct_law_kept : Value} {od_law_kept an_law_kept : Option Addr} {sl_law_kept : Array (Option Value)}
    (a_law_kept : PySem.W.nsIn K mainGlobals "_law_kept" = some (some (.ref f_law_kept))) (l_law_kept : K.lookup f_law_kept = some ⟨oc_law_kept, od_law_kept, .func (PySem.W.fnOf "_law_kept" "_law_kept" (defArgs s_law_kept) (defBody s_law_kept) (defScope s_law_kept) .none kV_law_kept dc_law_kept pm_law_kept an_law_kept cd_law_kept ct_law_kept), sl_law_kept⟩) (e_law_kept : PySem.W.codeIn K cd_law_kept "_law_kept" = true) (k_law_kept : PySem.W.keepIn K (.ref f_law_kept) = true)
    {f_law_gone : Addr} {oc_law_gone kV_law_gone dc_law_gone pm_law_gone cd_law_gone ct_law_gone : Value} {od_law_gone an_law_gone : Option Addr} {sl_law_gone : Array (Option Value)}
    (a_law_gone : PySem.W.nsIn K mainGlobals "_law_gone" = some (some (.ref f_law_gone))) (l_law_gone : K.lookup f_law_gone = some ⟨oc_law_gone, od_law_gone, .func (PySem.W.fnOf "_law_gone" "_law_gone" (defArgs s_law_gone) (defBody s_law_gone) (defScope s_law_gone) .none kV_law_gone dc_law_gone pm_law_gone an_law_gone cd_law_gone ct_law_gone), sl_law_gone⟩) (e_law_gone : PySem.W.codeIn K cd_law_gone "_law_gone" = true) (k_law_gone : PySem.W.keepIn K (.ref f_law_gone) = true)
    {f_law_has : Addr} {oc_law_has kV_law_has dc_law_has pm_law_has cd_law_has ct_law_has : Value} {od_law_has an_law_has : Option Addr} {sl_law_has : Array (Option Value)}
    (a_law_has : PySem.W.nsIn K mainGlobals "_law_has" = some (some (.ref f_law_has))) (l_law_has : K.lookup f_law_has = some ⟨oc_law_has, od_law_has, .func (PySem.W.fnOf "_law_has" "_law_has" (defArgs s_law_has) (defBody s_law_has) (defScope s_law_has) .none kV_law_has dc_law_has pm_law_has an_law_has cd_law_has ct_law_has), sl_law_has⟩) (e_law_has : PySem.W.codeIn K cd_law_has "_law_has" = true) (k_law_has : PySem.W.keepIn K (.ref f_law_has) = true)
    {f_law_texts : Addr} {oc_law_texts kV_law_texts dc_law_texts pm_law_texts cd_law_texts ct_law_texts : Value} {od_law_texts an_law_texts : Option Addr} {sl_law_texts : Array (Option Value)}
    (a_law_texts : PySem.W.nsIn K mainGlobals "_law_texts" = some (some (.ref f_law_texts))) (l_law_texts : K.lookup f_law_texts = some ⟨oc_law_texts, od_law_texts, .func (PySem.W.fnOf "_law_texts" "_law_texts" (defArgs s_law_texts) (defBody s_law_texts) (defScope s_law_texts) .none kV_law_texts dc_law_texts pm_law_texts an_law_texts cd_law_texts ct_law_texts), sl_law_texts⟩) (e_law_texts : PySem.W.codeIn K cd_law_texts "_law_texts" = true) (k_law_texts : PySem.W.keepIn K (.ref f_law_texts) = true)
    {f_law_is_part : Addr} {oc_law_is_part kV_law_is_part dc_law_is_part pm_law_is_part cd_law_is_part ct_law_is_part : Value} {od_law_is_part an_law_is_part : Option Addr} {sl_law_is_part : Array (Option Value)}
    (a_law_is_part : PySem.W.nsIn K mainGlobals "_law_is_part" = some (some (.ref f_law_is_part))) (l_law_is_part : K.lookup f_law_is_part = some ⟨oc_law_is_part, od_law_is_part, .func (PySem.W.fnOf "_law_is_part" "_law_is_part" (defArgs s_law_is_part) (defBody s_law_is_part) (defScope s_law_is_part) .none kV_law_is_part dc_law_is_part pm_law_is_part an_law_is_part cd_law_is_part ct_law_is_part), sl_law_is_part⟩) (e_law_is_part : PySem.W.codeIn K cd_law_is_part "_law_is_part" = true) (k_law_is_part : PySem.W.keepIn K (.ref f_law_is_part) = true)
    {f_law_is_taken : Addr} {oc_law_is_taken kV_law_is_taken dc_law_is_taken pm_law_is_taken cd_law_is_taken ct_law_is_taken : Value} {od_law_is_taken an_law_is_taken : Option Addr} {sl_law_is_taken : Array (Option Value)}
    (a_law_is_taken : PySem.W.nsIn K mainGlobals "_law_is_taken" = some (some (.ref f_law_is_taken))) (l_law_is_taken : K.lookup f_law_is_taken = some ⟨oc_law_is_taken, od_law_is_taken, .func (PySem.W.fnOf "_law_is_taken" "_law_is_taken" (defArgs s_law_is_taken) (defBody s_law_is_taken) (defScope s_law_is_taken) .none kV_law_is_taken dc_law_is_taken pm_law_is_taken an_law_is_taken cd_law_is_taken ct_law_is_taken), sl_law_is_taken⟩) (e_law_is_taken : PySem.W.codeIn K cd_law_is_taken "_law_is_taken" = true) (k_law_is_taken : PySem.W.keepIn K (.ref f_law_is_taken) = true)
    {f_law_is_sure : Addr} {oc_law_is_sure kV_law_is_sure dc_law_is_sure pm_law_is_sure cd_law_is_sure ct_law_is_sure : Value} {od_law_is_sure an_law_is_sure : Option Addr} {sl_law_is_sure : Array (Option Value)}
    (a_law_is_sure : PySem.W.nsIn K mainGlobals "_law_is_sure" = some (some (.ref f_law_is_sure))) (l_law_is_sure : K.lookup f_law_is_sure = some ⟨oc_law_is_sure, od_law_is_sure, .func (PySem.W.fnOf "_law_is_sure" "_law_is_sure" (defArgs s_law_is_sure) (defBody s_law_is_sure) (defScope s_law_is_sure) .none kV_law_is_sure dc_law_is_sure pm_law_is_sure an_law_is_sure cd_law_is_sure ct_law_is_sure), sl_law_is_sure⟩) (e_law_is_sure : PySem.W.codeIn K cd_law_is_sure "_law_is_sure" = true) (k_law_is_sure : PySem.W.keepIn K (.ref f_law_is_sure) = true)
    {f_law_least : Addr} {oc_law_least kV_law_least dc_law_least pm_law_least cd_law_least ct_law_least : Value} {od_law_least an_law_least : Option Addr} {sl_law_least : Array (Option Value)}
    (a_law_least : PySem.W.nsIn K mainGlobals "_law_least" = some (some (.ref f_law_least))) (l_law_least : K.lookup f_law_least = some ⟨oc_law_least, od_law_least, .func (PySem.W.fnOf "_law_least" "_law_least" (defArgs s_law_least) (defBody s_law_least) (defScope s_law_least) .none kV_law_least dc_law_least pm_law_least an_law_least cd_law_least ct_law_least), sl_law_least⟩) (e_law_least : PySem.W.codeIn K cd_law_least "_law_least" = true) (k_law_least : PySem.W.keepIn K (.ref f_law_least) = true)
    {f_law_right : Addr} {oc_law_right kV_law_right dc_law_right pm_law_right cd_law_right ct_law_right : Value} {od_law_right an_law_right : Option Addr} {sl_law_right : Array (Option Value)}
    (a_law_right : PySem.W.nsIn K mainGlobals "_law_right" = some (some (.ref f_law_right))) (l_law_right : K.lookup f_law_right = some ⟨oc_law_right, od_law_right, .func (PySem.W.fnOf "_law_right" "_law_right" (defArgs s_law_right) (defBody s_law_right) (defScope s_law_right) .none kV_law_right dc_law_right pm_law_right an_law_right cd_law_right ct_law_right), sl_law_right⟩) (e_law_right : PySem.W.codeIn K cd_law_right "_law_right" = true) (k_law_right : PySem.W.keepIn K (.ref f_law_right) = true)
    {f_law : Addr} {oc_law kV_law dc_law pm_law cd_law ct_law : Value} {od_law an_law : Option Addr} {sl_law : Array (Option Value)}
    (a_law : PySem.W.nsIn K mainGlobals "law" = some (some (.ref f_law))) (l_law : K.lookup f_law = some ⟨oc_law, od_law, .func (PySem.W.fnOf "law" "law" (defArgs s_law) (defBody s_law) (defScope s_law) .none kV_law dc_law pm_law an_law cd_law ct_law), sl_law⟩) (e_law : PySem.W.codeIn K cd_law "law" = true) (k_law : PySem.W.keepIn K (.ref f_law) = true)
    {C_Machine : Addr} (a_Machine : PySem.W.nsIn K mainGlobals "Machine" = some (some (.ref C_Machine))) (pg_Machine : PySem.W.plainGet K C_Machine Str.empty = true) (hd_Machine : PySem.W.hasDictIn K C_Machine = true) (po_Machine : PySem.W.plainOver K C_Machine = true) (sa_Machine : PySem.W.findIn K (.ref C_Machine) "__setattr__" = some (some (.builtin "object.__setattr__"))) (mk_Machine : PySem.W.makesIn K C_Machine = true) (kc_Machine : PySem.W.keepIn K (.ref C_Machine) = true)
    (ca_Machine : PySem.W.findIn K (.ref C_Machine) "__class__" = some (some (.builtin "object.__class__"))) (cg_Machine : PySem.W.specialIn K (.builtin "object.__class__") "__get__" = some (some (.builtin "getset_descriptor.__get__"))) (ct_Machine : PySem.W.takesIn K (.builtin "object.__class__") = some true) (ne_Machine : PySem.W.findIn K (.ref C_Machine) "__ne__" = some (some (.builtin "object.__ne__"))) (tt_Machine : PySem.W.typeIn K (.ref C_Machine) = some (.type "type")) (cr_Machine : PySem.W.readsIn K C_Machine (.type "type") = true) (ck_Machine : PySem.W.specialIn K (.ref C_Machine) "__getattribute__" = some (some (.builtin "type.__getattribute__")))
    {u_Machine_MOST_PLACES : Tok} (cv_Machine_MOST_PLACES : PySem.W.findCls K (.ref C_Machine) (.type "type") "MOST_PLACES" = some (.val (.int 40 u_Machine_MOST_PLACES)))
    (nf_Machine_own_letters : PySem.W.findIn K (.ref C_Machine) "own_letters" = some none)
    (nf_Machine_own_rows : PySem.W.findIn K (.ref C_Machine) "own_rows" = some none)
    (nf_Machine_own_kinds : PySem.W.findIn K (.ref C_Machine) "own_kinds" = some none)
    {t_Machine_MOST_PLACES : Tok} (ka_Machine_MOST_PLACES : PySem.W.findIn K (.ref C_Machine) "MOST_PLACES" = some (some (.int 40 t_Machine_MOST_PLACES))) (kg_Machine_MOST_PLACES : PySem.W.specialIn K (.int 40 t_Machine_MOST_PLACES) "__get__" = some none)
    {f_Machine_init : Addr} {oc_Machine_init kV_Machine_init dc_Machine_init pm_Machine_init cd_Machine_init ct_Machine_init : Value} {od_Machine_init an_Machine_init : Option Addr} {sl_Machine_init : Array (Option Value)}
    (a_Machine_init : PySem.W.findIn K (.ref C_Machine) "__init__" = some (some (.ref f_Machine_init))) (i_Machine_init : PySem.W.isFn K (.ref f_Machine_init) = true)
    (l_Machine_init : K.lookup f_Machine_init = some ⟨oc_Machine_init, od_Machine_init, .func (PySem.W.fnOf "__init__" "Machine.__init__" (defArgs s_Machine_init) (defBody s_Machine_init) (defScope s_Machine_init) .none kV_Machine_init dc_Machine_init pm_Machine_init an_Machine_init cd_Machine_init ct_Machine_init), sl_Machine_init⟩) (e_Machine_init : PySem.W.codeIn K cd_Machine_init "Machine.__init__" = true) (k_Machine_init : PySem.W.keepIn K (.ref f_Machine_init) = true)
    {f_Machine_rows : Addr} {oc_Machine_rows kV_Machine_rows dc_Machine_rows pm_Machine_rows cd_Machine_rows ct_Machine_rows : Value} {od_Machine_rows an_Machine_rows : Option Addr} {sl_Machine_rows : Array (Option Value)}
    (a_Machine_rows : PySem.W.findIn K (.ref C_Machine) "rows" = some (some (.ref f_Machine_rows))) (i_Machine_rows : PySem.W.isFn K (.ref f_Machine_rows) = true)
    (l_Machine_rows : K.lookup f_Machine_rows = some ⟨oc_Machine_rows, od_Machine_rows, .func (PySem.W.fnOf "rows" "Machine.rows" (defArgs s_Machine_rows) (defBody s_Machine_rows) (defScope s_Machine_rows) .none kV_Machine_rows dc_Machine_rows pm_Machine_rows an_Machine_rows cd_Machine_rows ct_Machine_rows), sl_Machine_rows⟩) (e_Machine_rows : PySem.W.codeIn K cd_Machine_rows "Machine.rows" = true) (k_Machine_rows : PySem.W.keepIn K (.ref f_Machine_rows) = true)
    {f_Machine_kinds : Addr} {oc_Machine_kinds kV_Machine_kinds dc_Machine_kinds pm_Machine_kinds cd_Machine_kinds ct_Machine_kinds : Value} {od_Machine_kinds an_Machine_kinds : Option Addr} {sl_Machine_kinds : Array (Option Value)}
    (a_Machine_kinds : PySem.W.findIn K (.ref C_Machine) "kinds" = some (some (.ref f_Machine_kinds))) (i_Machine_kinds : PySem.W.isFn K (.ref f_Machine_kinds) = true)
    (l_Machine_kinds : K.lookup f_Machine_kinds = some ⟨oc_Machine_kinds, od_Machine_kinds, .func (PySem.W.fnOf "kinds" "Machine.kinds" (defArgs s_Machine_kinds) (defBody s_Machine_kinds) (defScope s_Machine_kinds) .none kV_Machine_kinds dc_Machine_kinds pm_Machine_kinds an_Machine_kinds cd_Machine_kinds ct_Machine_kinds), sl_Machine_kinds⟩) (e_Machine_kinds : PySem.W.codeIn K cd_Machine_kinds "Machine.kinds" = true) (k_Machine_kinds : PySem.W.keepIn K (.ref f_Machine_kinds) = true)
    {f_Machine_len : Addr} {oc_Machine_len kV_Machine_len dc_Machine_len pm_Machine_len cd_Machine_len ct_Machine_len : Value} {od_Machine_len an_Machine_len : Option Addr} {sl_Machine_len : Array (Option Value)}
    (a_Machine_len : PySem.W.findIn K (.ref C_Machine) "__len__" = some (some (.ref f_Machine_len))) (i_Machine_len : PySem.W.isFn K (.ref f_Machine_len) = true)
    (l_Machine_len : K.lookup f_Machine_len = some ⟨oc_Machine_len, od_Machine_len, .func (PySem.W.fnOf "__len__" "Machine.__len__" (defArgs s_Machine_len) (defBody s_Machine_len) (defScope s_Machine_len) .none kV_Machine_len dc_Machine_len pm_Machine_len an_Machine_len cd_Machine_len ct_Machine_len), sl_Machine_len⟩) (e_Machine_len : PySem.W.codeIn K cd_Machine_len "Machine.__len__" = true) (k_Machine_len : PySem.W.keepIn K (.ref f_Machine_len) = true)
    {f_Machine_contains : Addr} {oc_Machine_contains kV_Machine_contains dc_Machine_contains pm_Machine_contains cd_Machine_contains ct_Machine_contains : Value} {od_Machine_contains an_Machine_contains : Option Addr} {sl_Machine_contains : Array (Option Value)}
    (a_Machine_contains : PySem.W.findIn K (.ref C_Machine) "__contains__" = some (some (.ref f_Machine_contains))) (i_Machine_contains : PySem.W.isFn K (.ref f_Machine_contains) = true)
    (l_Machine_contains : K.lookup f_Machine_contains = some ⟨oc_Machine_contains, od_Machine_contains, .func (PySem.W.fnOf "__contains__" "Machine.__contains__" (defArgs s_Machine_contains) (defBody s_Machine_contains) (defScope s_Machine_contains) .none kV_Machine_contains dc_Machine_contains pm_Machine_contains an_Machine_contains cd_Machine_contains ct_Machine_contains), sl_Machine_contains⟩) (e_Machine_contains : PySem.W.codeIn K cd_Machine_contains "Machine.__contains__" = true) (k_Machine_contains : PySem.W.keepIn K (.ref f_Machine_contains) = true)
    {f_Machine_eq : Addr} {oc_Machine_eq kV_Machine_eq dc_Machine_eq pm_Machine_eq cd_Machine_eq ct_Machine_eq : Value} {od_Machine_eq an_Machine_eq : Option Addr} {sl_Machine_eq : Array (Option Value)}
    (a_Machine_eq : PySem.W.findIn K (.ref C_Machine) "__eq__" = some (some (.ref f_Machine_eq))) (i_Machine_eq : PySem.W.isFn K (.ref f_Machine_eq) = true)
    (l_Machine_eq : K.lookup f_Machine_eq = some ⟨oc_Machine_eq, od_Machine_eq, .func (PySem.W.fnOf "__eq__" "Machine.__eq__" (defArgs s_Machine_eq) (defBody s_Machine_eq) (defScope s_Machine_eq) .none kV_Machine_eq dc_Machine_eq pm_Machine_eq an_Machine_eq cd_Machine_eq ct_Machine_eq), sl_Machine_eq⟩) (e_Machine_eq : PySem.W.codeIn K cd_Machine_eq "Machine.__eq__" = true) (k_Machine_eq : PySem.W.keepIn K (.ref f_Machine_eq) = true)
    {f_Machine_repr : Addr} {oc_Machine_repr kV_Machine_repr dc_Machine_repr pm_Machine_repr cd_Machine_repr ct_Machine_repr : Value} {od_Machine_repr an_Machine_repr : Option Addr} {sl_Machine_repr : Array (Option Value)}
    (a_Machine_repr : PySem.W.findIn K (.ref C_Machine) "__repr__" = some (some (.ref f_Machine_repr))) (i_Machine_repr : PySem.W.isFn K (.ref f_Machine_repr) = true)
    (l_Machine_repr : K.lookup f_Machine_repr = some ⟨oc_Machine_repr, od_Machine_repr, .func (PySem.W.fnOf "__repr__" "Machine.__repr__" (defArgs s_Machine_repr) (defBody s_Machine_repr) (defScope s_Machine_repr) .none kV_Machine_repr dc_Machine_repr pm_Machine_repr an_Machine_repr cd_Machine_repr ct_Machine_repr), sl_Machine_repr⟩) (e_Machine_repr : PySem.W.codeIn K cd_Machine_repr "Machine.__repr__" = true) (k_Machine_repr : PySem.W.keepIn K (.ref f_Machine_repr) = true)
    {f_Machine_letters : Addr} {oc_Machine_letters kV_Machine_letters dc_Machine_letters pm_Machine_letters cd_Machine_letters ct_Machine_letters : Value} {od_Machine_letters an_Machine_letters : Option Addr} {sl_Machine_letters : Array (Option Value)}
    {p_Machine_letters : Addr} {rest_Machine_letters : List Value} (a_Machine_letters : PySem.W.findIn K (.ref C_Machine) "letters" = some (some (.ref p_Machine_letters))) (pg_Machine_letters : PySem.W.specialIn K (.ref p_Machine_letters) "__get__" = some (some (.builtin "property.__get__"))) (pt_Machine_letters : PySem.W.takesIn K (.ref p_Machine_letters) = some true) (pr_Machine_letters : PySem.W.recIn K p_Machine_letters "property" = some (.ref f_Machine_letters :: rest_Machine_letters))
    (l_Machine_letters : K.lookup f_Machine_letters = some ⟨oc_Machine_letters, od_Machine_letters, .func (PySem.W.fnOf "letters" "Machine.letters" (defArgs s_Machine_letters) (defBody s_Machine_letters) (defScope s_Machine_letters) .none kV_Machine_letters dc_Machine_letters pm_Machine_letters an_Machine_letters cd_Machine_letters ct_Machine_letters), sl_Machine_letters⟩) (e_Machine_letters : PySem.W.codeIn K cd_Machine_letters "Machine.letters" = true) (k_Machine_letters : PySem.W.keepIn K (.ref f_Machine_letters) = true)
    {C_Sum : Addr} (a_Sum : PySem.W.nsIn K mainGlobals "Sum" = some (some (.ref C_Sum))) (pg_Sum : PySem.W.plainGet K C_Sum Str.empty = true) (hd_Sum : PySem.W.hasDictIn K C_Sum = true) (po_Sum : PySem.W.plainOver K C_Sum = true) (sa_Sum : PySem.W.findIn K (.ref C_Sum) "__setattr__" = some (some (.builtin "object.__setattr__"))) (mk_Sum : PySem.W.makesIn K C_Sum = true) (kc_Sum : PySem.W.keepIn K (.ref C_Sum) = true)
    (ca_Sum : PySem.W.findIn K (.ref C_Sum) "__class__" = some (some (.builtin "object.__class__"))) (cg_Sum : PySem.W.specialIn K (.builtin "object.__class__") "__get__" = some (some (.builtin "getset_descriptor.__get__"))) (ct_Sum : PySem.W.takesIn K (.builtin "object.__class__") = some true) (ne_Sum : PySem.W.findIn K (.ref C_Sum) "__ne__" = some (some (.builtin "object.__ne__"))) (tt_Sum : PySem.W.typeIn K (.ref C_Sum) = some (.type "type")) (cr_Sum : PySem.W.readsIn K C_Sum (.type "type") = true) (ck_Sum : PySem.W.specialIn K (.ref C_Sum) "__getattribute__" = some (some (.builtin "type.__getattribute__")))
    (ns_Sum : PySem.W.mroIn K C_Sum (.type "str") = some false)
    {u_Sum_MOST_PRODUCTS : Tok} (cv_Sum_MOST_PRODUCTS : PySem.W.findCls K (.ref C_Sum) (.type "type") "MOST_PRODUCTS" = some (.val (.int 60 u_Sum_MOST_PRODUCTS)))
    (nf_Sum_own_letters : PySem.W.findIn K (.ref C_Sum) "own_letters" = some none)
    (nf_Sum_own_products : PySem.W.findIn K (.ref C_Sum) "own_products" = some none)
    {t_Sum_MOST_PRODUCTS : Tok} (ka_Sum_MOST_PRODUCTS : PySem.W.findIn K (.ref C_Sum) "MOST_PRODUCTS" = some (some (.int 60 t_Sum_MOST_PRODUCTS))) (kg_Sum_MOST_PRODUCTS : PySem.W.specialIn K (.int 60 t_Sum_MOST_PRODUCTS) "__get__" = some none)
    {f_Sum_init : Addr} {oc_Sum_init kV_Sum_init dc_Sum_init pm_Sum_init cd_Sum_init ct_Sum_init : Value} {od_Sum_init an_Sum_init : Option Addr} {sl_Sum_init : Array (Option Value)}
    (a_Sum_init : PySem.W.findIn K (.ref C_Sum) "__init__" = some (some (.ref f_Sum_init))) (i_Sum_init : PySem.W.isFn K (.ref f_Sum_init) = true)
    (l_Sum_init : K.lookup f_Sum_init = some ⟨oc_Sum_init, od_Sum_init, .func (PySem.W.fnOf "__init__" "Sum.__init__" (defArgs s_Sum_init) (defBody s_Sum_init) (defScope s_Sum_init) .none kV_Sum_init dc_Sum_init pm_Sum_init an_Sum_init cd_Sum_init ct_Sum_init), sl_Sum_init⟩) (e_Sum_init : PySem.W.codeIn K cd_Sum_init "Sum.__init__" = true) (k_Sum_init : PySem.W.keepIn K (.ref f_Sum_init) = true)
    {f_Sum_products : Addr} {oc_Sum_products kV_Sum_products dc_Sum_products pm_Sum_products cd_Sum_products ct_Sum_products : Value} {od_Sum_products an_Sum_products : Option Addr} {sl_Sum_products : Array (Option Value)}
    (a_Sum_products : PySem.W.findIn K (.ref C_Sum) "products" = some (some (.ref f_Sum_products))) (i_Sum_products : PySem.W.isFn K (.ref f_Sum_products) = true)
    (l_Sum_products : K.lookup f_Sum_products = some ⟨oc_Sum_products, od_Sum_products, .func (PySem.W.fnOf "products" "Sum.products" (defArgs s_Sum_products) (defBody s_Sum_products) (defScope s_Sum_products) .none kV_Sum_products dc_Sum_products pm_Sum_products an_Sum_products cd_Sum_products ct_Sum_products), sl_Sum_products⟩) (e_Sum_products : PySem.W.codeIn K cd_Sum_products "Sum.products" = true) (k_Sum_products : PySem.W.keepIn K (.ref f_Sum_products) = true)
    {f_Sum_contains : Addr} {oc_Sum_contains kV_Sum_contains dc_Sum_contains pm_Sum_contains cd_Sum_contains ct_Sum_contains : Value} {od_Sum_contains an_Sum_contains : Option Addr} {sl_Sum_contains : Array (Option Value)}
    (a_Sum_contains : PySem.W.findIn K (.ref C_Sum) "__contains__" = some (some (.ref f_Sum_contains))) (i_Sum_contains : PySem.W.isFn K (.ref f_Sum_contains) = true)
    (l_Sum_contains : K.lookup f_Sum_contains = some ⟨oc_Sum_contains, od_Sum_contains, .func (PySem.W.fnOf "__contains__" "Sum.__contains__" (defArgs s_Sum_contains) (defBody s_Sum_contains) (defScope s_Sum_contains) .none kV_Sum_contains dc_Sum_contains pm_Sum_contains an_Sum_contains cd_Sum_contains ct_Sum_contains), sl_Sum_contains⟩) (e_Sum_contains : PySem.W.codeIn K cd_Sum_contains "Sum.__contains__" = true) (k_Sum_contains : PySem.W.keepIn K (.ref f_Sum_contains) = true)
    {f_Sum_len : Addr} {oc_Sum_len kV_Sum_len dc_Sum_len pm_Sum_len cd_Sum_len ct_Sum_len : Value} {od_Sum_len an_Sum_len : Option Addr} {sl_Sum_len : Array (Option Value)}
    (a_Sum_len : PySem.W.findIn K (.ref C_Sum) "__len__" = some (some (.ref f_Sum_len))) (i_Sum_len : PySem.W.isFn K (.ref f_Sum_len) = true)
    (l_Sum_len : K.lookup f_Sum_len = some ⟨oc_Sum_len, od_Sum_len, .func (PySem.W.fnOf "__len__" "Sum.__len__" (defArgs s_Sum_len) (defBody s_Sum_len) (defScope s_Sum_len) .none kV_Sum_len dc_Sum_len pm_Sum_len an_Sum_len cd_Sum_len ct_Sum_len), sl_Sum_len⟩) (e_Sum_len : PySem.W.codeIn K cd_Sum_len "Sum.__len__" = true) (k_Sum_len : PySem.W.keepIn K (.ref f_Sum_len) = true)
    {f_Sum_eq : Addr} {oc_Sum_eq kV_Sum_eq dc_Sum_eq pm_Sum_eq cd_Sum_eq ct_Sum_eq : Value} {od_Sum_eq an_Sum_eq : Option Addr} {sl_Sum_eq : Array (Option Value)}
    (a_Sum_eq : PySem.W.findIn K (.ref C_Sum) "__eq__" = some (some (.ref f_Sum_eq))) (i_Sum_eq : PySem.W.isFn K (.ref f_Sum_eq) = true)
    (l_Sum_eq : K.lookup f_Sum_eq = some ⟨oc_Sum_eq, od_Sum_eq, .func (PySem.W.fnOf "__eq__" "Sum.__eq__" (defArgs s_Sum_eq) (defBody s_Sum_eq) (defScope s_Sum_eq) .none kV_Sum_eq dc_Sum_eq pm_Sum_eq an_Sum_eq cd_Sum_eq ct_Sum_eq), sl_Sum_eq⟩) (e_Sum_eq : PySem.W.codeIn K cd_Sum_eq "Sum.__eq__" = true) (k_Sum_eq : PySem.W.keepIn K (.ref f_Sum_eq) = true)
    {f_Sum_repr : Addr} {oc_Sum_repr kV_Sum_repr dc_Sum_repr pm_Sum_repr cd_Sum_repr ct_Sum_repr : Value} {od_Sum_repr an_Sum_repr : Option Addr} {sl_Sum_repr : Array (Option Value)}
    (a_Sum_repr : PySem.W.findIn K (.ref C_Sum) "__repr__" = some (some (.ref f_Sum_repr))) (i_Sum_repr : PySem.W.isFn K (.ref f_Sum_repr) = true)
    (l_Sum_repr : K.lookup f_Sum_repr = some ⟨oc_Sum_repr, od_Sum_repr, .func (PySem.W.fnOf "__repr__" "Sum.__repr__" (defArgs s_Sum_repr) (defBody s_Sum_repr) (defScope s_Sum_repr) .none kV_Sum_repr dc_Sum_repr pm_Sum_repr an_Sum_repr cd_Sum_repr ct_Sum_repr), sl_Sum_repr⟩) (e_Sum_repr : PySem.W.codeIn K cd_Sum_repr "Sum.__repr__" = true) (k_Sum_repr : PySem.W.keepIn K (.ref f_Sum_repr) = true)
    {f_Sum_letters : Addr} {oc_Sum_letters kV_Sum_letters dc_Sum_letters pm_Sum_letters cd_Sum_letters ct_Sum_letters : Value} {od_Sum_letters an_Sum_letters : Option Addr} {sl_Sum_letters : Array (Option Value)}
    {p_Sum_letters : Addr} {rest_Sum_letters : List Value} (a_Sum_letters : PySem.W.findIn K (.ref C_Sum) "letters" = some (some (.ref p_Sum_letters))) (pg_Sum_letters : PySem.W.specialIn K (.ref p_Sum_letters) "__get__" = some (some (.builtin "property.__get__"))) (pt_Sum_letters : PySem.W.takesIn K (.ref p_Sum_letters) = some true) (pr_Sum_letters : PySem.W.recIn K p_Sum_letters "property" = some (.ref f_Sum_letters :: rest_Sum_letters))
    (l_Sum_letters : K.lookup f_Sum_letters = some ⟨oc_Sum_letters, od_Sum_letters, .func (PySem.W.fnOf "letters" "Sum.letters" (defArgs s_Sum_letters) (defBody s_Sum_letters) (defScope s_Sum_letters) .none kV_Sum_letters dc_Sum_letters pm_Sum_letters an_Sum_letters cd_Sum_letters ct_Sum_letters), sl_Sum_letters⟩) (e_Sum_letters : PySem.W.codeIn K cd_Sum_letters "Sum.letters" = true) (k_Sum_letters : PySem.W.keepIn K (.ref f_Sum_letters) = true)
    {f_Sum_whole : Addr} {oc_Sum_whole kV_Sum_whole dc_Sum_whole pm_Sum_whole cd_Sum_whole ct_Sum_whole : Value} {od_Sum_whole an_Sum_whole : Option Addr} {sl_Sum_whole : Array (Option Value)}
    {p_Sum_whole : Addr} {rest_Sum_whole : List Value} (a_Sum_whole : PySem.W.findCls K (.ref C_Sum) (.type "type") "whole" = some (.get (.builtin "staticmethod.__get__") (.ref p_Sum_whole) .none (.ref C_Sum))) (pr_Sum_whole : PySem.W.recIn K p_Sum_whole "staticmethod" = some (.ref f_Sum_whole :: rest_Sum_whole))
    (l_Sum_whole : K.lookup f_Sum_whole = some ⟨oc_Sum_whole, od_Sum_whole, .func (PySem.W.fnOf "whole" "Sum.whole" (defArgs s_Sum_whole) (defBody s_Sum_whole) (defScope s_Sum_whole) .none kV_Sum_whole dc_Sum_whole pm_Sum_whole an_Sum_whole cd_Sum_whole ct_Sum_whole), sl_Sum_whole⟩) (e_Sum_whole : PySem.W.codeIn K cd_Sum_whole "Sum.whole" = true) (k_Sum_whole : PySem.W.keepIn K (.ref f_Sum_whole) = true)
    (z_abs : PySem.W.nsIn K mainGlobals "abs" = some none)
    (z_all : PySem.W.nsIn K mainGlobals "all" = some none)
    (z_any : PySem.W.nsIn K mainGlobals "any" = some none)
    (z_bool : PySem.W.nsIn K mainGlobals "bool" = some none)
    (z_dict : PySem.W.nsIn K mainGlobals "dict" = some none)
    (z_divmod : PySem.W.nsIn K mainGlobals "divmod" = some none)
    (z_enumerate : PySem.W.nsIn K mainGlobals "enumerate" = some none)
    (z_int : PySem.W.nsIn K mainGlobals "int" = some none)
    (z_isinstance : PySem.W.nsIn K mainGlobals "isinstance" = some none)
    (z_len : PySem.W.nsIn K mainGlobals "len" = some none)
    (z_list : PySem.W.nsIn K mainGlobals "list" = some none)
    (z_max : PySem.W.nsIn K mainGlobals "max" = some none)
    (z_min : PySem.W.nsIn K mainGlobals "min" = some none)
    (z_property : PySem.W.nsIn K mainGlobals "property" = some none)
    (z_range : PySem.W.nsIn K mainGlobals "range" = some none)
    (z_repr : PySem.W.nsIn K mainGlobals "repr" = some none)
    (z_set : PySem.W.nsIn K mainGlobals "set" = some none)
    (z_sorted : PySem.W.nsIn K mainGlobals "sorted" = some none)
    (z_str : PySem.W.nsIn K mainGlobals "str" = some none)
    (z_tuple : PySem.W.nsIn K mainGlobals "tuple" = some none)
    (z_zip : PySem.W.nsIn K mainGlobals "zip" = some none)
    {t_SMALL_basics : Tok} (y_SMALL_basics : PySem.W.nsIn K mainGlobals "SMALL_basics" = some (some (.str "abcdefghijklmnopqrstuvwxyz" t_SMALL_basics)))
    {t_MOST_LETTERS : Tok} (y_MOST_LETTERS : PySem.W.nsIn K mainGlobals "MOST_LETTERS" = some (some (.int 3 t_MOST_LETTERS)))
    {t_SMALL_products : Tok} (y_SMALL_products : PySem.W.nsIn K mainGlobals "SMALL_products" = some (some (.str "abcdefghijklmnopqrstuvwxyz" t_SMALL_products)))
    {t_STAR : Tok} (y_STAR : PySem.W.nsIn K mainGlobals "STAR" = some (some (.str "*" t_STAR)))
    {t_MOST_IN_STAR : Tok} (y_MOST_IN_STAR : PySem.W.nsIn K mainGlobals "MOST_IN_STAR" = some (some (.int 3 t_MOST_IN_STAR)))
    {t_MOST_PIECES : Tok} (y_MOST_PIECES : PySem.W.nsIn K mainGlobals "MOST_PIECES" = some (some (.int 12 t_MOST_PIECES)))
    {t_LOST : Tok} (y_LOST : PySem.W.nsIn K mainGlobals "LOST" = some (some (.int (-1) t_LOST)))
    {t_MOST_PARTS_LETTERS : Tok} (y_MOST_PARTS_LETTERS : PySem.W.nsIn K mainGlobals "MOST_PARTS_LETTERS" = some (some (.int 60 t_MOST_PARTS_LETTERS)))
    {t_MOST_PLACES : Tok} (y_MOST_PLACES : PySem.W.nsIn K mainGlobals "MOST_PLACES" = some (some (.int 6 t_MOST_PLACES)))
    {t_MOST_TEXTS : Tok} (y_MOST_TEXTS : PySem.W.nsIn K mainGlobals "MOST_TEXTS" = some (some (.int 200 t_MOST_TEXTS)))
    : ∃ T : All K mg, T.f_law = f_law := by
  have F_is_integer := fun_mk (st := s_is_integer) l_is_integer e_is_integer k_is_integer
  have B_is_integer := F_is_integer.binds (ps := ["value"]) fun _ _ _ _ _ _ us hl => match us, hl with | [_], _ => rfl
  have F_is_list := fun_mk (st := s_is_list) l_is_list e_is_list k_is_list
  have B_is_list := F_is_list.binds (ps := ["value"]) fun _ _ _ _ _ _ us hl => match us, hl with | [_], _ => rfl
  have F_is_text := fun_mk (st := s_is_text) l_is_text e_is_text k_is_text
  have B_is_text := F_is_text.binds (ps := ["value"]) fun _ _ _ _ _ _ us hl => match us, hl with | [_], _ => rfl
  have F_are_letters := fun_mk (st := s_are_letters) l_are_letters e_are_letters k_are_letters
  have B_are_letters := F_are_letters.binds (ps := ["value"]) fun _ _ _ _ _ _ us hl => match us, hl with | [_], _ => rfl
  have F_is_text_over := fun_mk (st := s_is_text_over) l_is_text_over e_is_text_over k_is_text_over
  have B_is_text_over := F_is_text_over.binds (ps := ["letters", "value"]) fun _ _ _ _ _ _ us hl => match us, hl with | [_, _], _ => rfl
  have F_want_few := fun_mk (st := s_want_few) l_want_few e_want_few k_want_few
  have B_want_few := F_want_few.binds (ps := ["what", "many", "limit"]) fun _ _ _ _ _ _ us hl => match us, hl with | [_, _, _], _ => rfl
  have F_is_row := fun_mk (st := s_is_row) l_is_row e_is_row k_is_row
  have B_is_row := F_is_row.binds (ps := ["value", "size", "many"]) fun _ _ _ _ _ _ us hl => match us, hl with | [_, _, _], _ => rfl
  have F_want_machine := fun_mk (st := s_want_machine) l_want_machine e_want_machine k_want_machine
  have B_want_machine := F_want_machine.binds (ps := ["letters", "rows", "kinds"]) fun _ _ _ _ _ _ us hl => match us, hl with | [_, _, _], _ => rfl
  have F_met_from := fun_mk (st := s_met_from) l_met_from e_met_from k_met_from
  have B_met_from := F_met_from.binds (ps := ["rows", "start"]) fun _ _ _ _ _ _ us hl => match us, hl with | [_, _], _ => rfl
  have F_want_places := fun_mk (st := s_want_places) l_want_places e_want_places k_want_places
  have B_want_places := F_want_places.binds (ps := ["limit", "machines"]) fun _ _ _ _ _ _ us hl => match us, hl with | [_, _], _ => rfl
  have F_led := fun_mk (st := s_led) l_led e_led k_led
  have B_led := F_led.binds (ps := ["machine", "place", "text"]) fun _ _ _ _ _ _ us hl => match us, hl with | [_, _, _], _ => rfl
  have F_is_taken := fun_mk (st := s_is_taken) l_is_taken e_is_taken k_is_taken
  have B_is_taken := F_is_taken.binds (ps := ["machine", "text"]) fun _ _ _ _ _ _ us hl => match us, hl with | [_, _], _ => rfl
  have F_want_texts_parts := fun_mk (st := s_want_texts_parts) l_want_texts_parts e_want_texts_parts k_want_texts_parts
  have B_want_texts_parts := F_want_texts_parts.binds (ps := ["texts"]) fun _ _ _ _ _ _ us hl => match us, hl with | [_], _ => rfl
  have F_is_part_of := fun_mk (st := s_is_part_of) l_is_part_of e_is_part_of k_is_part_of
  have B_is_part_of := F_is_part_of.binds (ps := ["text", "whole"]) fun _ _ _ _ _ _ us hl => match us, hl with | [_, _], _ => rfl
  have F_is_part := fun_mk (st := s_is_part) l_is_part e_is_part k_is_part
  have B_is_part := F_is_part.binds (ps := ["text", "whole"]) fun _ _ _ _ _ _ us hl => match us, hl with | [_, _], _ => rfl
  have F_is_star := fun_mk (st := s_is_star) l_is_star e_is_star k_is_star
  have B_is_star := F_is_star.binds (ps := ["piece"]) fun _ _ _ _ _ _ us hl => match us, hl with | [_], _ => rfl
  have F_letters_in := fun_mk (st := s_letters_in) l_letters_in e_letters_in k_letters_in
  have B_letters_in := F_letters_in.binds (ps := ["piece"]) fun _ _ _ _ _ _ us hl => match us, hl with | [_], _ => rfl
  have F_are_rising := fun_mk (st := s_are_rising) l_are_rising e_are_rising k_are_rising
  have B_are_rising := F_are_rising.binds (ps := ["letters"]) fun _ _ _ _ _ _ us hl => match us, hl with | [_], _ => rfl
  have F_is_piece := fun_mk (st := s_is_piece) l_is_piece e_is_piece k_is_piece
  have B_is_piece := F_is_piece.binds (ps := ["value"]) fun _ _ _ _ _ _ us hl => match us, hl with | [_], _ => rfl
  have F_is_product := fun_mk (st := s_is_product) l_is_product e_is_product k_is_product
  have B_is_product := F_is_product.binds (ps := ["value"]) fun _ _ _ _ _ _ us hl => match us, hl with | [_], _ => rfl
  have F_is_product_over := fun_mk (st := s_is_product_over) l_is_product_over e_is_product_over k_is_product_over
  have B_is_product_over := F_is_product_over.binds (ps := ["letters", "value"]) fun _ _ _ _ _ _ us hl => match us, hl with | [_, _], _ => rfl
  have F_holds := fun_mk (st := s_holds) l_holds e_holds k_holds
  have B_holds := F_holds.binds (ps := ["piece", "other"]) fun _ _ _ _ _ _ us hl => match us, hl with | [_, _], _ => rfl
  have F_place_behind := fun_mk (st := s_place_behind) l_place_behind e_place_behind k_place_behind
  have B_place_behind := F_place_behind.binds (ps := ["product", "place", "piece"]) fun _ _ _ _ _ _ us hl => match us, hl with | [_, _, _], _ => rfl
  have F_place_by := fun_mk (st := s_place_by) l_place_by e_place_by k_place_by
  have B_place_by := F_place_by.binds (ps := ["product", "place", "pieces"]) fun _ _ _ _ _ _ us hl => match us, hl with | [_, _, _], _ => rfl
  have F_has_text := fun_mk (st := s_has_text) l_has_text e_has_text k_has_text
  have B_has_text := F_has_text.binds (ps := ["product", "text"]) fun _ _ _ _ _ _ us hl => match us, hl with | [_, _], _ => rfl
  have F_lies_within := fun_mk (st := s_lies_within) l_lies_within e_lies_within k_lies_within
  have B_lies_within := F_lies_within.binds (ps := ["one", "other"]) fun _ _ _ _ _ _ us hl => match us, hl with | [_, _], _ => rfl
  have F_reduced_of := fun_mk (st := s_reduced_of) l_reduced_of e_reduced_of k_reduced_of
  have B_reduced_of := F_reduced_of.binds (ps := ["product"]) fun _ _ _ _ _ _ us hl => match us, hl with | [_], _ => rfl
  have F_kept_of := fun_mk (st := s_kept_of) l_kept_of e_kept_of k_kept_of
  have B_kept_of := F_kept_of.binds (ps := ["products"]) fun _ _ _ _ _ _ us hl => match us, hl with | [_], _ => rfl
  have F_sum_of := fun_mk (st := s_sum_of) l_sum_of e_sum_of k_sum_of
  have B_sum_of := F_sum_of.binds (ps := ["letters", "products"]) fun _ _ _ _ _ _ us hl => match us, hl with | [_, _], _ => rfl
  have F_want_letters := fun_mk (st := s_want_letters) l_want_letters e_want_letters k_want_letters
  have B_want_letters := F_want_letters.binds (ps := ["letters"]) fun _ _ _ _ _ _ us hl => match us, hl with | [_], _ => rfl
  have F_least_taken := fun_mk (st := s_least_taken) l_least_taken e_least_taken k_least_taken
  have B_least_taken := F_least_taken.binds (ps := ["machine"]) fun _ _ _ _ _ _ us hl => match us, hl with | [_], _ => rfl
  have F_up := fun_mk (st := s_up) l_up e_up k_up
  have B_up := F_up.binds (ps := ["machine"]) fun _ _ _ _ _ _ us hl => match us, hl with | [_], _ => rfl
  have F_sure_parts := fun_mk (st := s_sure_parts) l_sure_parts e_sure_parts k_sure_parts
  have B_sure_parts := F_sure_parts.binds (ps := ["machine"]) fun _ _ _ _ _ _ us hl => match us, hl with | [_], _ => rfl
  have F_law_pot := fun_mk (st := s_law_pot) l_law_pot e_law_pot k_law_pot
  have B_law_pot := F_law_pot.binds (ps := ["_law_script", "_law_k"]) fun _ _ _ _ _ _ us hl => match us, hl with | [_, _], _ => rfl
  have F_law_draw := fun_mk (st := s_law_draw) l_law_draw e_law_draw k_law_draw
  have B_law_draw := F_law_draw.binds (ps := ["_law_pot_here", "_law_size"]) fun _ _ _ _ _ _ us hl => match us, hl with | [_, _], _ => rfl
  have F_law_pick := fun_mk (st := s_law_pick) l_law_pick e_law_pick k_law_pick
  have B_law_pick := F_law_pick.binds (ps := ["_law_pot_here", "_law_some"]) fun _ _ _ _ _ _ us hl => match us, hl with | [_, _], _ => rfl
  have F_law_mixed := fun_mk (st := s_law_mixed) l_law_mixed e_law_mixed k_law_mixed
  have B_law_mixed := F_law_mixed.binds (ps := ["_law_pot_here", "_law_some"]) fun _ _ _ _ _ _ us hl => match us, hl with | [_, _], _ => rfl
  have F_law_rows := fun_mk (st := s_law_rows) l_law_rows e_law_rows k_law_rows
  have B_law_rows := F_law_rows.binds (ps := ["_law_pot_here", "_law_many", "_law_size"]) fun _ _ _ _ _ _ us hl => match us, hl with | [_, _, _], _ => rfl
  have F_law_kinds := fun_mk (st := s_law_kinds) l_law_kinds e_law_kinds k_law_kinds
  have B_law_kinds := F_law_kinds.binds (ps := ["_law_pot_here", "_law_many"]) fun _ _ _ _ _ _ us hl => match us, hl with | [_, _], _ => rfl
  have F_law_is_star := fun_mk (st := s_law_is_star) l_law_is_star e_law_is_star k_law_is_star
  have B_law_is_star := F_law_is_star.binds (ps := ["_law_piece"]) fun _ _ _ _ _ _ us hl => match us, hl with | [_], _ => rfl
  have F_law_fits := fun_mk (st := s_law_fits) l_law_fits e_law_fits k_law_fits
  have B_law_fits := F_law_fits.binds (ps := ["_law_piece", "_law_other"]) fun _ _ _ _ _ _ us hl => match us, hl with | [_, _], _ => rfl
  have F_law_within := fun_mk (st := s_law_within) l_law_within e_law_within k_law_within
  have B_law_within := F_law_within.binds (ps := ["_law_one", "_law_other"]) fun _ _ _ _ _ _ us hl => match us, hl with | [_, _], _ => rfl
  have F_law_reduced := fun_mk (st := s_law_reduced) l_law_reduced e_law_reduced k_law_reduced
  have B_law_reduced := F_law_reduced.binds (ps := ["_law_product"]) fun _ _ _ _ _ _ us hl => match us, hl with | [_], _ => rfl
  have F_law_kept := fun_mk (st := s_law_kept) l_law_kept e_law_kept k_law_kept
  have B_law_kept := F_law_kept.binds (ps := ["_law_products"]) fun _ _ _ _ _ _ us hl => match us, hl with | [_], _ => rfl
  have F_law_gone := fun_mk (st := s_law_gone) l_law_gone e_law_gone k_law_gone
  have B_law_gone := F_law_gone.binds (ps := ["_law_products", "_law_spots", "_law_sign"]) fun _ _ _ _ _ _ us hl => match us, hl with | [_, _, _], _ => rfl
  have F_law_has := fun_mk (st := s_law_has) l_law_has e_law_has k_law_has
  have B_law_has := F_law_has.binds (ps := ["_law_products", "_law_text"]) fun _ _ _ _ _ _ us hl => match us, hl with | [_, _], _ => rfl
  have F_law_texts := fun_mk (st := s_law_texts) l_law_texts e_law_texts k_law_texts
  have B_law_texts := F_law_texts.binds (ps := ["_law_signs", "_law_most"]) fun _ _ _ _ _ _ us hl => match us, hl with | [_, _], _ => rfl
  have F_law_is_part := fun_mk (st := s_law_is_part) l_law_is_part e_law_is_part k_law_is_part
  have B_law_is_part := F_law_is_part.binds (ps := ["_law_text", "_law_whole"]) fun _ _ _ _ _ _ us hl => match us, hl with | [_, _], _ => rfl
  have F_law_is_taken := fun_mk (st := s_law_is_taken) l_law_is_taken e_law_is_taken k_law_is_taken
  have B_law_is_taken := F_law_is_taken.binds (ps := ["_law_signs", "_law_rows_here", "_law_kinds_here", "_law_text"]) fun _ _ _ _ _ _ us hl => match us, hl with | [_, _, _, _], _ => rfl
  have F_law_is_sure := fun_mk (st := s_law_is_sure) l_law_is_sure e_law_is_sure k_law_is_sure
  have B_law_is_sure := F_law_is_sure.binds (ps := ["_law_signs", "_law_rows_here", "_law_kinds_here", "_law_text"]) fun _ _ _ _ _ _ us hl => match us, hl with | [_, _, _, _], _ => rfl
  have F_law_least := fun_mk (st := s_law_least) l_law_least e_law_least k_law_least
  have B_law_least := F_law_least.binds (ps := ["_law_signs", "_law_rows_here", "_law_kinds_here"]) fun _ _ _ _ _ _ us hl => match us, hl with | [_, _, _], _ => rfl
  have F_law_right := fun_mk (st := s_law_right) l_law_right e_law_right k_law_right
  have B_law_right := F_law_right.binds (ps := ["_law_pot_here"]) fun _ _ _ _ _ _ us hl => match us, hl with | [_], _ => rfl
  have F_law := fun_mk (st := s_law) l_law e_law k_law
  have B_law := F_law.binds (ps := ["_law_script"]) fun _ _ _ _ _ _ us hl => match us, hl with | [_], _ => rfl
  have F_Machine_init := fun_mk (st := s_Machine_init) l_Machine_init e_Machine_init k_Machine_init
  have B_Machine_init := F_Machine_init.binds (ps := ["self", "letters", "rows", "kinds"]) fun _ _ _ _ _ _ us hl => match us, hl with | [_, _, _, _], _ => rfl
  have F_Machine_rows := fun_mk (st := s_Machine_rows) l_Machine_rows e_Machine_rows k_Machine_rows
  have B_Machine_rows := F_Machine_rows.binds (ps := ["self"]) fun _ _ _ _ _ _ us hl => match us, hl with | [_], _ => rfl
  have F_Machine_kinds := fun_mk (st := s_Machine_kinds) l_Machine_kinds e_Machine_kinds k_Machine_kinds
  have B_Machine_kinds := F_Machine_kinds.binds (ps := ["self"]) fun _ _ _ _ _ _ us hl => match us, hl with | [_], _ => rfl
  have F_Machine_len := fun_mk (st := s_Machine_len) l_Machine_len e_Machine_len k_Machine_len
  have B_Machine_len := F_Machine_len.binds (ps := ["self"]) fun _ _ _ _ _ _ us hl => match us, hl with | [_], _ => rfl
  have F_Machine_contains := fun_mk (st := s_Machine_contains) l_Machine_contains e_Machine_contains k_Machine_contains
  have B_Machine_contains := F_Machine_contains.binds (ps := ["self", "value"]) fun _ _ _ _ _ _ us hl => match us, hl with | [_, _], _ => rfl
  have F_Machine_eq := fun_mk (st := s_Machine_eq) l_Machine_eq e_Machine_eq k_Machine_eq
  have B_Machine_eq := F_Machine_eq.binds (ps := ["self", "other"]) fun _ _ _ _ _ _ us hl => match us, hl with | [_, _], _ => rfl
  have F_Machine_repr := fun_mk (st := s_Machine_repr) l_Machine_repr e_Machine_repr k_Machine_repr
  have B_Machine_repr := F_Machine_repr.binds (ps := ["self"]) fun _ _ _ _ _ _ us hl => match us, hl with | [_], _ => rfl
  have F_Machine_letters := fun_mk (st := s_Machine_letters) l_Machine_letters e_Machine_letters k_Machine_letters
  have B_Machine_letters := F_Machine_letters.binds (ps := ["self"]) fun _ _ _ _ _ _ us hl => match us, hl with | [_], _ => rfl
  have F_Sum_init := fun_mk (st := s_Sum_init) l_Sum_init e_Sum_init k_Sum_init
  have B_Sum_init := F_Sum_init.binds (ps := ["self", "letters", "products"]) fun _ _ _ _ _ _ us hl => match us, hl with | [_, _, _], _ => rfl
  have F_Sum_products := fun_mk (st := s_Sum_products) l_Sum_products e_Sum_products k_Sum_products
  have B_Sum_products := F_Sum_products.binds (ps := ["self"]) fun _ _ _ _ _ _ us hl => match us, hl with | [_], _ => rfl
  have F_Sum_contains := fun_mk (st := s_Sum_contains) l_Sum_contains e_Sum_contains k_Sum_contains
  have B_Sum_contains := F_Sum_contains.binds (ps := ["self", "value"]) fun _ _ _ _ _ _ us hl => match us, hl with | [_, _], _ => rfl
  have F_Sum_len := fun_mk (st := s_Sum_len) l_Sum_len e_Sum_len k_Sum_len
  have B_Sum_len := F_Sum_len.binds (ps := ["self"]) fun _ _ _ _ _ _ us hl => match us, hl with | [_], _ => rfl
  have F_Sum_eq := fun_mk (st := s_Sum_eq) l_Sum_eq e_Sum_eq k_Sum_eq
  have B_Sum_eq := F_Sum_eq.binds (ps := ["self", "other"]) fun _ _ _ _ _ _ us hl => match us, hl with | [_, _], _ => rfl
  have F_Sum_repr := fun_mk (st := s_Sum_repr) l_Sum_repr e_Sum_repr k_Sum_repr
  have B_Sum_repr := F_Sum_repr.binds (ps := ["self"]) fun _ _ _ _ _ _ us hl => match us, hl with | [_], _ => rfl
  have F_Sum_letters := fun_mk (st := s_Sum_letters) l_Sum_letters e_Sum_letters k_Sum_letters
  have B_Sum_letters := F_Sum_letters.binds (ps := ["self"]) fun _ _ _ _ _ _ us hl => match us, hl with | [_], _ => rfl
  have F_Sum_whole := fun_mk (st := s_Sum_whole) l_Sum_whole e_Sum_whole k_Sum_whole
  have B_Sum_whole := F_Sum_whole.binds (ps := ["letters"]) fun _ _ _ _ _ _ us hl => match us, hl with | [_], _ => rfl
  exact ⟨⟨_, _, ⟨F_is_integer, B_is_integer, PySem.W.mg_of X G a_is_integer⟩,
    _, _, ⟨F_is_list, B_is_list, PySem.W.mg_of X G a_is_list⟩,
    _, _, ⟨F_is_text, B_is_text, PySem.W.mg_of X G a_is_text⟩,
    _, _, ⟨F_are_letters, B_are_letters, PySem.W.mg_of X G a_are_letters⟩,
    _, _, ⟨F_is_text_over, B_is_text_over, PySem.W.mg_of X G a_is_text_over⟩,
    _, _, ⟨F_want_few, B_want_few, PySem.W.mg_of X G a_want_few⟩,
    _, _, ⟨F_is_row, B_is_row, PySem.W.mg_of X G a_is_row⟩,
    _, _, ⟨F_want_machine, B_want_machine, PySem.W.mg_of X G a_want_machine⟩,
    _, _, ⟨F_met_from, B_met_from, PySem.W.mg_of X G a_met_from⟩,
    _, _, ⟨F_want_places, B_want_places, PySem.W.mg_of X G a_want_places⟩,
    _, _, ⟨F_led, B_led, PySem.W.mg_of X G a_led⟩,
    _, _, ⟨F_is_taken, B_is_taken, PySem.W.mg_of X G a_is_taken⟩,
    _, _, ⟨F_want_texts_parts, B_want_texts_parts, PySem.W.mg_of X G a_want_texts_parts⟩,
    _, _, ⟨F_is_part_of, B_is_part_of, PySem.W.mg_of X G a_is_part_of⟩,
    _, _, ⟨F_is_part, B_is_part, PySem.W.mg_of X G a_is_part⟩,
    _, _, ⟨F_is_star, B_is_star, PySem.W.mg_of X G a_is_star⟩,
    _, _, ⟨F_letters_in, B_letters_in, PySem.W.mg_of X G a_letters_in⟩,
    _, _, ⟨F_are_rising, B_are_rising, PySem.W.mg_of X G a_are_rising⟩,
    _, _, ⟨F_is_piece, B_is_piece, PySem.W.mg_of X G a_is_piece⟩,
    _, _, ⟨F_is_product, B_is_product, PySem.W.mg_of X G a_is_product⟩,
    _, _, ⟨F_is_product_over, B_is_product_over, PySem.W.mg_of X G a_is_product_over⟩,
    _, _, ⟨F_holds, B_holds, PySem.W.mg_of X G a_holds⟩,
    _, _, ⟨F_place_behind, B_place_behind, PySem.W.mg_of X G a_place_behind⟩,
    _, _, ⟨F_place_by, B_place_by, PySem.W.mg_of X G a_place_by⟩,
    _, _, ⟨F_has_text, B_has_text, PySem.W.mg_of X G a_has_text⟩,
    _, _, ⟨F_lies_within, B_lies_within, PySem.W.mg_of X G a_lies_within⟩,
    _, _, ⟨F_reduced_of, B_reduced_of, PySem.W.mg_of X G a_reduced_of⟩,
    _, _, ⟨F_kept_of, B_kept_of, PySem.W.mg_of X G a_kept_of⟩,
    _, _, ⟨F_sum_of, B_sum_of, PySem.W.mg_of X G a_sum_of⟩,
    _, _, ⟨F_want_letters, B_want_letters, PySem.W.mg_of X G a_want_letters⟩,
    _, _, ⟨F_least_taken, B_least_taken, PySem.W.mg_of X G a_least_taken⟩,
    _, _, ⟨F_up, B_up, PySem.W.mg_of X G a_up⟩,
    _, _, ⟨F_sure_parts, B_sure_parts, PySem.W.mg_of X G a_sure_parts⟩,
    _, _, ⟨F_law_pot, B_law_pot, PySem.W.mg_of X G a_law_pot⟩,
    _, _, ⟨F_law_draw, B_law_draw, PySem.W.mg_of X G a_law_draw⟩,
    _, _, ⟨F_law_pick, B_law_pick, PySem.W.mg_of X G a_law_pick⟩,
    _, _, ⟨F_law_mixed, B_law_mixed, PySem.W.mg_of X G a_law_mixed⟩,
    _, _, ⟨F_law_rows, B_law_rows, PySem.W.mg_of X G a_law_rows⟩,
    _, _, ⟨F_law_kinds, B_law_kinds, PySem.W.mg_of X G a_law_kinds⟩,
    _, _, ⟨F_law_is_star, B_law_is_star, PySem.W.mg_of X G a_law_is_star⟩,
    _, _, ⟨F_law_fits, B_law_fits, PySem.W.mg_of X G a_law_fits⟩,
    _, _, ⟨F_law_within, B_law_within, PySem.W.mg_of X G a_law_within⟩,
    _, _, ⟨F_law_reduced, B_law_reduced, PySem.W.mg_of X G a_law_reduced⟩,
    _, _, ⟨F_law_kept, B_law_kept, PySem.W.mg_of X G a_law_kept⟩,
    _, _, ⟨F_law_gone, B_law_gone, PySem.W.mg_of X G a_law_gone⟩,
    _, _, ⟨F_law_has, B_law_has, PySem.W.mg_of X G a_law_has⟩,
    _, _, ⟨F_law_texts, B_law_texts, PySem.W.mg_of X G a_law_texts⟩,
    _, _, ⟨F_law_is_part, B_law_is_part, PySem.W.mg_of X G a_law_is_part⟩,
    _, _, ⟨F_law_is_taken, B_law_is_taken, PySem.W.mg_of X G a_law_is_taken⟩,
    _, _, ⟨F_law_is_sure, B_law_is_sure, PySem.W.mg_of X G a_law_is_sure⟩,
    _, _, ⟨F_law_least, B_law_least, PySem.W.mg_of X G a_law_least⟩,
    _, _, ⟨F_law_right, B_law_right, PySem.W.mg_of X G a_law_right⟩,
    _, _, ⟨F_law, B_law, PySem.W.mg_of X G a_law⟩,
    _, ⟨pg_Machine, hd_Machine, po_Machine, sa_Machine⟩, PySem.W.mg_of X G a_Machine, mk_Machine, kc_Machine, ca_Machine, cg_Machine, ct_Machine, ne_Machine, tt_Machine, ⟨cr_Machine, ck_Machine⟩,
    ⟨_, ⟨cv_Machine_MOST_PLACES, ⟨_, rfl⟩⟩⟩,
    nf_Machine_own_letters,
    nf_Machine_own_rows,
    nf_Machine_own_kinds,
    ⟨_, ⟨ka_Machine_MOST_PLACES, ⟨_, rfl⟩, kg_Machine_MOST_PLACES, by decide +kernel⟩⟩,
    _, _, ⟨F_Machine_init, B_Machine_init, ⟨a_Machine_init, i_Machine_init, k_Machine_init⟩⟩,
    _, _, ⟨F_Machine_rows, B_Machine_rows, ⟨a_Machine_rows, i_Machine_rows, k_Machine_rows⟩⟩,
    _, _, ⟨F_Machine_kinds, B_Machine_kinds, ⟨a_Machine_kinds, i_Machine_kinds, k_Machine_kinds⟩⟩,
    _, _, ⟨F_Machine_len, B_Machine_len, ⟨a_Machine_len, i_Machine_len, k_Machine_len⟩⟩,
    _, _, ⟨F_Machine_contains, B_Machine_contains, ⟨a_Machine_contains, i_Machine_contains, k_Machine_contains⟩⟩,
    _, _, ⟨F_Machine_eq, B_Machine_eq, ⟨a_Machine_eq, i_Machine_eq, k_Machine_eq⟩⟩,
    _, _, ⟨F_Machine_repr, B_Machine_repr, ⟨a_Machine_repr, i_Machine_repr, k_Machine_repr⟩⟩,
    _, _, _, ⟨F_Machine_letters, B_Machine_letters, ⟨a_Machine_letters, pg_Machine_letters, pt_Machine_letters, ⟨_, pr_Machine_letters⟩⟩⟩,
    _, ⟨pg_Sum, hd_Sum, po_Sum, sa_Sum⟩, PySem.W.mg_of X G a_Sum, mk_Sum, kc_Sum, ca_Sum, cg_Sum, ct_Sum, ne_Sum, tt_Sum, ns_Sum, ⟨cr_Sum, ck_Sum⟩,
    ⟨_, ⟨cv_Sum_MOST_PRODUCTS, ⟨_, rfl⟩⟩⟩,
    nf_Sum_own_letters,
    nf_Sum_own_products,
    ⟨_, ⟨ka_Sum_MOST_PRODUCTS, ⟨_, rfl⟩, kg_Sum_MOST_PRODUCTS, by decide +kernel⟩⟩,
    _, _, ⟨F_Sum_init, B_Sum_init, ⟨a_Sum_init, i_Sum_init, k_Sum_init⟩⟩,
    _, _, ⟨F_Sum_products, B_Sum_products, ⟨a_Sum_products, i_Sum_products, k_Sum_products⟩⟩,
    _, _, ⟨F_Sum_contains, B_Sum_contains, ⟨a_Sum_contains, i_Sum_contains, k_Sum_contains⟩⟩,
    _, _, ⟨F_Sum_len, B_Sum_len, ⟨a_Sum_len, i_Sum_len, k_Sum_len⟩⟩,
    _, _, ⟨F_Sum_eq, B_Sum_eq, ⟨a_Sum_eq, i_Sum_eq, k_Sum_eq⟩⟩,
    _, _, ⟨F_Sum_repr, B_Sum_repr, ⟨a_Sum_repr, i_Sum_repr, k_Sum_repr⟩⟩,
    _, _, _, ⟨F_Sum_letters, B_Sum_letters, ⟨a_Sum_letters, pg_Sum_letters, pt_Sum_letters, ⟨_, pr_Sum_letters⟩⟩⟩,
    _, _, _, ⟨F_Sum_whole, B_Sum_whole, ⟨a_Sum_whole, ⟨_, pr_Sum_whole⟩, k_Sum_whole⟩⟩,
    PySem.W.mg_none_of X G z_abs,
    PySem.W.mg_none_of X G z_all,
    PySem.W.mg_none_of X G z_any,
    PySem.W.mg_none_of X G z_bool,
    PySem.W.mg_none_of X G z_dict,
    PySem.W.mg_none_of X G z_divmod,
    PySem.W.mg_none_of X G z_enumerate,
    PySem.W.mg_none_of X G z_int,
    PySem.W.mg_none_of X G z_isinstance,
    PySem.W.mg_none_of X G z_len,
    PySem.W.mg_none_of X G z_list,
    PySem.W.mg_none_of X G z_max,
    PySem.W.mg_none_of X G z_min,
    PySem.W.mg_none_of X G z_property,
    PySem.W.mg_none_of X G z_range,
    PySem.W.mg_none_of X G z_repr,
    PySem.W.mg_none_of X G z_set,
    PySem.W.mg_none_of X G z_sorted,
    PySem.W.mg_none_of X G z_str,
    PySem.W.mg_none_of X G z_tuple,
    PySem.W.mg_none_of X G z_zip,
    ⟨_, PySem.W.mg_of X G y_SMALL_basics⟩,
    ⟨_, PySem.W.mg_of X G y_MOST_LETTERS⟩,
    ⟨_, PySem.W.mg_of X G y_SMALL_products⟩,
    ⟨_, PySem.W.mg_of X G y_STAR⟩,
    ⟨_, PySem.W.mg_of X G y_MOST_IN_STAR⟩,
    ⟨_, PySem.W.mg_of X G y_MOST_PIECES⟩,
    ⟨_, PySem.W.mg_of X G y_LOST⟩,
    ⟨_, PySem.W.mg_of X G y_MOST_PARTS_LETTERS⟩,
    ⟨_, PySem.W.mg_of X G y_MOST_PLACES⟩,
    ⟨_, PySem.W.mg_of X G y_MOST_TEXTS⟩⟩, rfl⟩
end Lw
open PySem PySem.W PyProof.Rows
set_option maxRecDepth 100000 in
set_option maxHeartbeats 0 in
theorem PySem.Challenge.cw_missedparts_k34_whole_least_taken_texts_holds : PySem.Challenge.rw_missedparts_k34_whole_least_taken_texts.Holds :=
  Lw.hd (by
  k_fill
  refine Att.attach_callB rfl rfl fun w s₀ s₁ mg mb fa o pm cd doc a vs ns G Y ho hd hcd hmg hobj hints hlen hbits hg => ?_
  have KX := PySem.W.km_in_of Y
  have GG := G.T.g
  refine' Lw.fin KX GG G.T.b G.T.builtins G.T.nolimit hg G.T.bmain hobj hints (Nat.le_trans hlen (by decide)) hmg (Lw.all_mk KX GG ?a_is_integer ?l_is_integer ?e_is_integer ?k_is_integer ?a_is_list ?l_is_list ?e_is_list ?k_is_list ?a_is_text ?l_is_text ?e_is_text ?k_is_text ?a_are_letters ?l_are_letters ?e_are_letters ?k_are_letters ?a_is_text_over ?l_is_text_over ?e_is_text_over ?k_is_text_over ?a_want_few ?l_want_few ?e_want_few ?k_want_few ?a_is_row ?l_is_row ?e_is_row ?k_is_row ?a_want_machine ?l_want_machine ?e_want_machine ?k_want_machine ?a_met_from ?l_met_from ?e_met_from ?k_met_from ?a_want_places ?l_want_places ?e_want_places ?k_want_places ?a_led ?l_led ?e_led ?k_led ?a_is_taken ?l_is_taken ?e_is_taken ?k_is_taken ?a_want_texts_parts ?l_want_texts_parts ?e_want_texts_parts ?k_want_texts_parts ?a_is_part_of ?l_is_part_of ?e_is_part_of ?k_is_part_of ?a_is_part ?l_is_part ?e_is_part ?k_is_part ?a_is_star ?l_is_star ?e_is_star ?k_is_star ?a_letters_in ?l_letters_in ?e_letters_in ?k_letters_in ?a_are_rising ?l_are_rising ?e_are_rising ?k_are_rising ?a_is_piece ?l_is_piece ?e_is_piece ?k_is_piece ?a_is_product ?l_is_product ?e_is_product ?k_is_product ?a_is_product_over ?l_is_product_over ?e_is_product_over ?k_is_product_over ?a_holds ?l_holds ?e_holds ?k_holds ?a_place_behind ?l_place_behind ?e_place_behind ?k_place_behind ?a_place_by ?l_place_by ?e_place_by ?k_place_by ?a_has_text ?l_has_text ?e_has_text ?k_has_text ?a_lies_within ?l_lies_within ?e_lies_within ?k_lies_within ?a_reduced_of ?l_reduced_of ?e_reduced_of ?k_reduced_of ?a_kept_of ?l_kept_of ?e_kept_of ?k_kept_of ?a_sum_of ?l_sum_of ?e_sum_of ?k_sum_of ?a_want_letters ?l_want_letters ?e_want_letters ?k_want_letters ?a_least_taken ?l_least_taken ?e_least_taken ?k_least_taken ?a_up ?l_up ?e_up ?k_up ?a_sure_parts ?l_sure_parts ?e_sure_parts ?k_sure_parts ?a_law_pot ?l_law_pot ?e_law_pot ?k_law_pot ?a_law_draw ?l_law_draw ?e_law_draw ?k_law_draw ?a_law_pick ?l_law_pick ?e_law_pick ?k_law_pick ?a_law_mixed ?l_law_mixed ?e_law_mixed ?k_law_mixed ?a_law_rows ?l_law_rows ?e_law_rows ?k_law_rows ?a_law_kinds ?l_law_kinds ?e_law_kinds ?k_law_kinds ?a_law_is_star ?l_law_is_star ?e_law_is_star ?k_law_is_star ?a_law_fits ?l_law_fits ?e_law_fits ?k_law_fits ?a_law_within ?l_law_within ?e_law_within ?k_law_within ?a_law_reduced ?l_law_reduced ?e_law_reduced ?k_law_reduced ?a_law_kept ?l_law_kept ?e_law_kept ?k_law_kept ?a_law_gone ?l_law_gone ?e_law_gone ?k_law_gone ?a_law_has ?l_law_has ?e_law_has ?k_law_has ?a_law_texts ?l_law_texts ?e_law_texts ?k_law_texts ?a_law_is_part ?l_law_is_part ?e_law_is_part ?k_law_is_part ?a_law_is_taken ?l_law_is_taken ?e_law_is_taken ?k_law_is_taken ?a_law_is_sure ?l_law_is_sure ?e_law_is_sure ?k_law_is_sure ?a_law_least ?l_law_least ?e_law_least ?k_law_least ?a_law_right ?l_law_right ?e_law_right ?k_law_right ?a_law ?l_law ?e_law ?k_law ?a_Machine ?pg_Machine ?hd_Machine ?po_Machine ?sa_Machine ?mk_Machine ?kc_Machine ?ca_Machine ?cg_Machine ?ct_Machine ?ne_Machine ?tt_Machine ?cr_Machine ?ck_Machine ?cv_Machine_MOST_PLACES ?nf_Machine_own_letters ?nf_Machine_own_rows ?nf_Machine_own_kinds ?ka_Machine_MOST_PLACES ?kg_Machine_MOST_PLACES ?a_Machine_init ?i_Machine_init ?l_Machine_init ?e_Machine_init ?k_Machine_init ?a_Machine_rows ?i_Machine_rows ?l_Machine_rows ?e_Machine_rows ?k_Machine_rows ?a_Machine_kinds ?i_Machine_kinds ?l_Machine_kinds ?e_Machine_kinds ?k_Machine_kinds ?a_Machine_len ?i_Machine_len ?l_Machine_len ?e_Machine_len ?k_Machine_len ?a_Machine_contains ?i_Machine_contains ?l_Machine_contains ?e_Machine_contains ?k_Machine_contains ?a_Machine_eq ?i_Machine_eq ?l_Machine_eq ?e_Machine_eq ?k_Machine_eq ?a_Machine_repr ?i_Machine_repr ?l_Machine_repr ?e_Machine_repr ?k_Machine_repr ?a_Machine_letters ?pg_Machine_letters ?pt_Machine_letters ?pr_Machine_letters ?l_Machine_letters ?e_Machine_letters ?k_Machine_letters ?a_Sum ?pg_Sum ?hd_Sum ?po_Sum ?sa_Sum ?mk_Sum ?kc_Sum ?ca_Sum ?cg_Sum ?ct_Sum ?ne_Sum ?tt_Sum ?cr_Sum ?ck_Sum ?ns_Sum ?cv_Sum_MOST_PRODUCTS ?nf_Sum_own_letters ?nf_Sum_own_products ?ka_Sum_MOST_PRODUCTS ?kg_Sum_MOST_PRODUCTS ?a_Sum_init ?i_Sum_init ?l_Sum_init ?e_Sum_init ?k_Sum_init ?a_Sum_products ?i_Sum_products ?l_Sum_products ?e_Sum_products ?k_Sum_products ?a_Sum_contains ?i_Sum_contains ?l_Sum_contains ?e_Sum_contains ?k_Sum_contains ?a_Sum_len ?i_Sum_len ?l_Sum_len ?e_Sum_len ?k_Sum_len ?a_Sum_eq ?i_Sum_eq ?l_Sum_eq ?e_Sum_eq ?k_Sum_eq ?a_Sum_repr ?i_Sum_repr ?l_Sum_repr ?e_Sum_repr ?k_Sum_repr ?a_Sum_letters ?pg_Sum_letters ?pt_Sum_letters ?pr_Sum_letters ?l_Sum_letters ?e_Sum_letters ?k_Sum_letters ?a_Sum_whole ?pr_Sum_whole ?l_Sum_whole ?e_Sum_whole ?k_Sum_whole ?z_abs ?z_all ?z_any ?z_bool ?z_dict ?z_divmod ?z_enumerate ?z_int ?z_isinstance ?z_len ?z_list ?z_max ?z_min ?z_property ?z_range ?z_repr ?z_set ?z_sorted ?z_str ?z_tuple ?z_zip ?y_SMALL_basics ?y_MOST_LETTERS ?y_SMALL_products ?y_STAR ?y_MOST_IN_STAR ?y_MOST_PIECES ?y_LOST ?y_MOST_PARTS_LETTERS ?y_MOST_PLACES ?y_MOST_TEXTS)
  (case a_is_integer => k_is); (case l_is_integer => k_is); (case e_is_integer => k_is); (case k_is_integer => k_is); (case a_is_list => k_is); (case l_is_list => k_is); (case e_is_list => k_is); (case k_is_list => k_is); (case a_is_text => k_is); (case l_is_text => k_is); (case e_is_text => k_is); (case k_is_text => k_is); (case a_are_letters => k_is); (case l_are_letters => k_is); (case e_are_letters => k_is); (case k_are_letters => k_is); (case a_is_text_over => k_is); (case l_is_text_over => k_is); (case e_is_text_over => k_is); (case k_is_text_over => k_is); (case a_want_few => k_is); (case l_want_few => k_is); (case e_want_few => k_is); (case k_want_few => k_is); (case a_is_row => k_is); (case l_is_row => k_is); (case e_is_row => k_is); (case k_is_row => k_is); (case a_want_machine => k_is); (case l_want_machine => k_is); (case e_want_machine => k_is); (case k_want_machine => k_is); (case a_met_from => k_is); (case l_met_from => k_is); (case e_met_from => k_is); (case k_met_from => k_is); (case a_want_places => k_is); (case l_want_places => k_is); (case e_want_places => k_is); (case k_want_places => k_is); (case a_led => k_is); (case l_led => k_is); (case e_led => k_is); (case k_led => k_is); (case a_is_taken => k_is); (case l_is_taken => k_is); (case e_is_taken => k_is); (case k_is_taken => k_is); (case a_want_texts_parts => k_is); (case l_want_texts_parts => k_is); (case e_want_texts_parts => k_is); (case k_want_texts_parts => k_is); (case a_is_part_of => k_is); (case l_is_part_of => k_is); (case e_is_part_of => k_is); (case k_is_part_of => k_is); (case a_is_part => k_is); (case l_is_part => k_is); (case e_is_part => k_is); (case k_is_part => k_is); (case a_is_star => k_is); (case l_is_star => k_is); (case e_is_star => k_is); (case k_is_star => k_is); (case a_letters_in => k_is); (case l_letters_in => k_is); (case e_letters_in => k_is); (case k_letters_in => k_is); (case a_are_rising => k_is); (case l_are_rising => k_is); (case e_are_rising => k_is); (case k_are_rising => k_is); (case a_is_piece => k_is); (case l_is_piece => k_is); (case e_is_piece => k_is); (case k_is_piece => k_is); (case a_is_product => k_is); (case l_is_product => k_is); (case e_is_product => k_is); (case k_is_product => k_is); (case a_is_product_over => k_is); (case l_is_product_over => k_is); (case e_is_product_over => k_is); (case k_is_product_over => k_is); (case a_holds => k_is); (case l_holds => k_is); (case e_holds => k_is); (case k_holds => k_is); (case a_place_behind => k_is); (case l_place_behind => k_is); (case e_place_behind => k_is); (case k_place_behind => k_is); (case a_place_by => k_is); (case l_place_by => k_is); (case e_place_by => k_is); (case k_place_by => k_is); (case a_has_text => k_is); (case l_has_text => k_is); (case e_has_text => k_is); (case k_has_text => k_is); (case a_lies_within => k_is); (case l_lies_within => k_is); (case e_lies_within => k_is); (case k_lies_within => k_is); (case a_reduced_of => k_is); (case l_reduced_of => k_is); (case e_reduced_of => k_is); (case k_reduced_of => k_is); (case a_kept_of => k_is); (case l_kept_of => k_is); (case e_kept_of => k_is); (case k_kept_of => k_is); (case a_sum_of => k_is); (case l_sum_of => k_is); (case e_sum_of => k_is); (case k_sum_of => k_is); (case a_want_letters => k_is); (case l_want_letters => k_is); (case e_want_letters => k_is); (case k_want_letters => k_is); (case a_least_taken => k_is); (case l_least_taken => k_is); (case e_least_taken => k_is); (case k_least_taken => k_is); (case a_up => k_is); (case l_up => k_is); (case e_up => k_is); (case k_up => k_is); (case a_sure_parts => k_is); (case l_sure_parts => k_is); (case e_sure_parts => k_is); (case k_sure_parts => k_is); (case a_law_pot => k_is); (case l_law_pot => k_is); (case e_law_pot => k_is); (case k_law_pot => k_is); (case a_law_draw => k_is); (case l_law_draw => k_is); (case e_law_draw => k_is); (case k_law_draw => k_is); (case a_law_pick => k_is); (case l_law_pick => k_is); (case e_law_pick => k_is); (case k_law_pick => k_is); (case a_law_mixed => k_is); (case l_law_mixed => k_is); (case e_law_mixed => k_is); (case k_law_mixed => k_is); (case a_law_rows => k_is); (case l_law_rows => k_is); (case e_law_rows => k_is); (case k_law_rows => k_is); (case a_law_kinds => k_is); (case l_law_kinds => k_is); (case e_law_kinds => k_is); (case k_law_kinds => k_is); (case a_law_is_star => k_is); (case l_law_is_star => k_is); (case e_law_is_star => k_is); (case k_law_is_star => k_is); (case a_law_fits => k_is); (case l_law_fits => k_is); (case e_law_fits => k_is); (case k_law_fits => k_is); (case a_law_within => k_is); (case l_law_within => k_is); (case e_law_within => k_is); (case k_law_within => k_is); (case a_law_reduced => k_is); (case l_law_reduced => k_is); (case e_law_reduced => k_is); (case k_law_reduced => k_is); (case a_law_kept => k_is); (case l_law_kept => k_is); (case e_law_kept => k_is); (case k_law_kept => k_is); (case a_law_gone => k_is); (case l_law_gone => k_is); (case e_law_gone => k_is); (case k_law_gone => k_is); (case a_law_has => k_is); (case l_law_has => k_is); (case e_law_has => k_is); (case k_law_has => k_is); (case a_law_texts => k_is); (case l_law_texts => k_is); (case e_law_texts => k_is); (case k_law_texts => k_is); (case a_law_is_part => k_is); (case l_law_is_part => k_is); (case e_law_is_part => k_is); (case k_law_is_part => k_is); (case a_law_is_taken => k_is); (case l_law_is_taken => k_is); (case e_law_is_taken => k_is); (case k_law_is_taken => k_is); (case a_law_is_sure => k_is); (case l_law_is_sure => k_is); (case e_law_is_sure => k_is); (case k_law_is_sure => k_is); (case a_law_least => k_is); (case l_law_least => k_is); (case e_law_least => k_is); (case k_law_least => k_is); (case a_law_right => k_is); (case l_law_right => k_is); (case e_law_right => k_is); (case k_law_right => k_is); (case a_law => k_is); (case l_law => k_is); (case e_law => k_is); (case k_law => k_is); (case a_Machine => k_is); (case pg_Machine => k_is); (case hd_Machine => k_is); (case po_Machine => k_is); (case sa_Machine => k_is); (case mk_Machine => k_is); (case kc_Machine => k_is); (case ca_Machine => k_is); (case cg_Machine => k_is); (case ct_Machine => k_is); (case ne_Machine => k_is); (case tt_Machine => k_is); (case cr_Machine => k_is); (case ck_Machine => k_is); (case cv_Machine_MOST_PLACES => k_is); (case nf_Machine_own_letters => k_is); (case nf_Machine_own_rows => k_is); (case nf_Machine_own_kinds => k_is); (case ka_Machine_MOST_PLACES => k_is); (case kg_Machine_MOST_PLACES => k_is); (case a_Machine_init => k_is); (case i_Machine_init => k_is); (case l_Machine_init => k_is); (case e_Machine_init => k_is); (case k_Machine_init => k_is); (case a_Machine_rows => k_is); (case i_Machine_rows => k_is); (case l_Machine_rows => k_is); (case e_Machine_rows => k_is); (case k_Machine_rows => k_is); (case a_Machine_kinds => k_is); (case i_Machine_kinds => k_is); (case l_Machine_kinds => k_is); (case e_Machine_kinds => k_is); (case k_Machine_kinds => k_is); (case a_Machine_len => k_is); (case i_Machine_len => k_is); (case l_Machine_len => k_is); (case e_Machine_len => k_is); (case k_Machine_len => k_is); (case a_Machine_contains => k_is); (case i_Machine_contains => k_is); (case l_Machine_contains => k_is); (case e_Machine_contains => k_is); (case k_Machine_contains => k_is); (case a_Machine_eq => k_is); (case i_Machine_eq => k_is); (case l_Machine_eq => k_is); (case e_Machine_eq => k_is); (case k_Machine_eq => k_is); (case a_Machine_repr => k_is); (case i_Machine_repr => k_is); (case l_Machine_repr => k_is); (case e_Machine_repr => k_is); (case k_Machine_repr => k_is); (case a_Machine_letters => k_is); (case pg_Machine_letters => k_is); (case pt_Machine_letters => k_is); (case pr_Machine_letters => k_is); (case l_Machine_letters => k_is); (case e_Machine_letters => k_is); (case k_Machine_letters => k_is); (case a_Sum => k_is); (case pg_Sum => k_is); (case hd_Sum => k_is); (case po_Sum => k_is); (case sa_Sum => k_is); (case mk_Sum => k_is); (case kc_Sum => k_is); (case ca_Sum => k_is); (case cg_Sum => k_is); (case ct_Sum => k_is); (case ne_Sum => k_is); (case tt_Sum => k_is); (case cr_Sum => k_is); (case ck_Sum => k_is); (case ns_Sum => k_is); (case cv_Sum_MOST_PRODUCTS => k_is); (case nf_Sum_own_letters => k_is); (case nf_Sum_own_products => k_is); (case ka_Sum_MOST_PRODUCTS => k_is); (case kg_Sum_MOST_PRODUCTS => k_is); (case a_Sum_init => k_is); (case i_Sum_init => k_is); (case l_Sum_init => k_is); (case e_Sum_init => k_is); (case k_Sum_init => k_is); (case a_Sum_products => k_is); (case i_Sum_products => k_is); (case l_Sum_products => k_is); (case e_Sum_products => k_is); (case k_Sum_products => k_is); (case a_Sum_contains => k_is); (case i_Sum_contains => k_is); (case l_Sum_contains => k_is); (case e_Sum_contains => k_is); (case k_Sum_contains => k_is); (case a_Sum_len => k_is); (case i_Sum_len => k_is); (case l_Sum_len => k_is); (case e_Sum_len => k_is); (case k_Sum_len => k_is); (case a_Sum_eq => k_is); (case i_Sum_eq => k_is); (case l_Sum_eq => k_is); (case e_Sum_eq => k_is); (case k_Sum_eq => k_is); (case a_Sum_repr => k_is); (case i_Sum_repr => k_is); (case l_Sum_repr => k_is); (case e_Sum_repr => k_is); (case k_Sum_repr => k_is); (case a_Sum_letters => k_is); (case pg_Sum_letters => k_is); (case pt_Sum_letters => k_is); (case pr_Sum_letters => k_is); (case l_Sum_letters => k_is); (case e_Sum_letters => k_is); (case k_Sum_letters => k_is); (case a_Sum_whole => k_is); (case pr_Sum_whole => k_is); (case l_Sum_whole => k_is); (case e_Sum_whole => k_is); (case k_Sum_whole => k_is); (case z_abs => k_is); (case z_all => k_is); (case z_any => k_is); (case z_bool => k_is); (case z_dict => k_is); (case z_divmod => k_is); (case z_enumerate => k_is); (case z_int => k_is); (case z_isinstance => k_is); (case z_len => k_is); (case z_list => k_is); (case z_max => k_is); (case z_min => k_is); (case z_property => k_is); (case z_range => k_is); (case z_repr => k_is); (case z_set => k_is); (case z_sorted => k_is); (case z_str => k_is); (case z_tuple => k_is); (case z_zip => k_is); (case y_SMALL_basics => k_is); (case y_MOST_LETTERS => k_is); (case y_SMALL_products => k_is); (case y_STAR => k_is); (case y_MOST_IN_STAR => k_is); (case y_MOST_PIECES => k_is); (case y_LOST => k_is); (case y_MOST_PARTS_LETTERS => k_is); (case y_MOST_PLACES => k_is); (case y_MOST_TEXTS => k_is)
  )
