import PyProof.Rows.All
import KE.OsRunLaw
import KE.KNestM
import PySem.Challenge.RW_missedparts_k91_whole_texts_of_sums
import Wide.All
import OpenK.AllK
import Wide.FinOn
import HandS.ForMost
import HandS.SortKw
import HandS.EndTab
import HandS.IsInst
import HandS.StrMore
import HandS.TupLe
import HandS.WideBits
import HandS.Walk
import HandS.Deep
import HandS.ListItems
import HandS.Conv
import HandS.More
import PyProof.ReprRoads
import KE.SortKeyHeap
import KE.KDictCopyH
import PyProof.ReprLen
import KE.DataMinKey
import HandS.Set
import HandS.Strs
import HandS.Property
import HandS.OwnEq
import HandS.FStr
import OpenK.KOps
import OpenK.KMeth
import KE.GoesZip
import KE.GoesMore
import KE.GoesEnum
import KE.KIsAll
import HandS.Replace
import HandS.ClsMeth
import PyProof.StrLawsFirst
import HandS.MakeKwOnly
import KE.KOpsOwn
import HandS.Exc
import HandS.ExcInit
import KE.KExcSuper
import KE.KEqNest
import PyProof.ReprReads
import HandS.SetBool
import HandS.TupSets
import HandS.TryOnly
import HandS.ExcOwn
import HandS.WordsExc
import HandS.ExcField
import HandS.ExcIs
import PyProof.ExcBaseAll.ValueError
import PyProof.ExcBaseAll.RuntimeError
import PyProof.ExcBaseAll.ArithmeticError
import HandS.Lambda
import HandS.Nested
import HandS.TryMany
import HandS.TupLen
import KE.KeyNested
import KE.SortData
import KE.KDictSum
import KE.KDictPairs
import KE.KDictKeyed
import PyProof.EqKinds
import KE.KDictZip
import KE.KDictItemsList
import KE.KDictDisplayH
import PyProof.DictTable
import HandS.DictComp
import PyProof.ReprHeadsEmpty
import KE.KStrBytes
import HandS.Codes
import HandS.RaiseMore
import KE.DataCmp
import HandS.DictTup
import HandS.TupAny
import PyProof.TupleOfSeq
import PyProof.Rows.SortShellAny
import HandS.Style
set_option Elab.async false
set_option linter.all false
set_option maxRecDepth 100000
set_option maxHeartbeats 4000000
namespace L3
open PySem PySem.W PySem.Calls PyProof.Rows HeadRun
/-- what a hook with tables looks at, off the tree -/
def kmOb (as ts : List Addr) (s : SharedT) : List (Option Obj) × List (Option Obj) := (as.map (getT s), ts.map (getT s))
theorem kmOb_ok {K : Params → Frag} {as : List Addr} {e : ∀ P, as = (K P).map (·.1)} {ts : List Addr} (s : SharedT) : kmOb as ts s = (kmHook K as e ts).obs s.abs :=
  Prod.ext (List.map_congr_left fun a _ => getT_eq s a) (List.map_congr_left fun a _ => getT_eq s a)
theorem map_three {α β γ δ : Type} {o : Option α} {f : α → β} {g : α → γ} {h : α → δ} {b : β} {c : γ} {d : δ}
    (x : o.map f = some b) (y : o.map g = some c) (z : o.map h = some d) : o.map (fun s => (f s, g s, h s)) = some (b, c, d) := by
  cases o with
  | none => cases x
  | some s => cases x; cases y; cases z; rfl
/-- the state behind the top -/
noncomputable abbrev endOf (p : Program) (M : Nat) (w : World) (os : OsState) : Option SharedT := endF (stepQ (denQ tabQ) p w) M p w os
/-- the head by three runs, each checked apart -/
theorem head3 {r : OpenRow} {p q : Program} {H : Hook} {ob : SharedT → H.α} {M : Nat} {loose : List PySem.Str} {d : DefRec} {kwd : List (PySem.Str × PySem.Expr)} (hr : r.prog = p) (hrec : r.toRowW.records = [])
    (ho : ∀ s : SharedT, ob s = H.obs s.abs)
    (e : opening p = plainProg p.main.scope.names) (f : ∀ s, fenceModules? p s = some s)
    (rA : ∀ w os, (endOf p M w os).map (fun s => looksF p (boot_heap w.params) s.abs) = some true)
    (rB : ∀ w os, (endOf p M w os).map (fun s => seenQ q loose (importedModules p.main.body) (fun s => xlAt q [] s && recOk [] s) s.abs) = some (openGood q loose))
    (rC : ∀ w os, (endOf p M w os).map ob = some (H.val w))
    (hdef : defOf q r.name = some (d, kwd)) (hp : r.prog.theDef r.name = some (d.params, d.body, d.scope)) (hk : kwWritten? d.params.kwonlyargs d.params.kw_defaults = some kwd)
    (hwr : (!r.writes || r.records.isEmpty) = true) (k1 : r.wellSaid = true) (ok : (chainsOk q && opensWell r.prog && (frees r.toRowW && r.within.isEmpty)) = true) (hb : r.prog.bare) (hw : r.toRowW.promised)
    (call : WalkO q loose (XL q []) H.says r.toRowW d kwd fun f vs => PySem.call f vs) : r.Holds := by
  subst hr
  refine head_any (M := M) (ob := ob) ho e f (fun w os => ?_) hdef hp hk hwr k1 ok hb hw call
  have z := map_three (rA w os) (rB w os) (rC w os)
  rw [hrec]
  exact z
theorem map_l {α β γ : Type} {o : Option α} {f : α → β} {g : α → γ} {b : β} {c : γ} (x : o.map (fun s => (f s, g s)) = some (b, c)) : o.map f = some b := by
  cases o with
  | none => cases x
  | some s => exact congrArg some (Prod.mk.inj (Option.some.inj x)).1
theorem map_r {α β γ : Type} {o : Option α} {f : α → β} {g : α → γ} {b : β} {c : γ} (x : o.map (fun s => (f s, g s)) = some (b, c)) : o.map g = some c := by
  cases o with
  | none => cases x
  | some s => exact congrArg some (Prod.mk.inj (Option.some.inj x)).2
/-- the looks at the view, one of them -/
noncomputable abbrev seenAt (p q : Program) (l : List PySem.Str) (s : SharedT) := seenQ q l (importedModules p.main.body) (fun s => xlAt q [] s && recOk [] s) s.abs
end L3
namespace Lw
open PySem PySem.W PyProof.Rows HeadRun L3
/-- a program with the last of its top's statements alone -/
def viewFrom (p : Program) (n : Nat) : Program := { p with main := { p.main with body := p.main.body.drop n } }
noncomputable abbrev pz : Program := PySem.Challenge.pw_missedparts_k91_whole_texts_of_sums
noncomputable def qz : Program := viewFrom pz 109
def lz : List PySem.Str := [PySem.Str.ofString "_wall", PySem.Str.ofString "PartsError", PySem.Str.ofString "InvalidText", PySem.Str.ofString "InvalidLetters", PySem.Str.ofString "InvalidLetter", PySem.Str.ofString "InvalidPlace", PySem.Str.ofString "InvalidMachine", PySem.Str.ofString "InvalidSum", PySem.Str.ofString "InvalidRows", PySem.Str.ofString "InvalidKinds", PySem.Str.ofString "InvalidProducts", PySem.Str.ofString "InvalidTexts", PySem.Str.ofString "InvalidRow", PySem.Str.ofString "StateError", PySem.Str.ofString "OtherLetters", PySem.Str.ofString "NotComeTo", PySem.Str.ofString "LimitError", PySem.Str.ofString "TooMany", PySem.Str.ofString "SMALL_basics", PySem.Str.ofString "MOST_LETTERS", PySem.Str.ofString "is_integer", PySem.Str.ofString "is_list", PySem.Str.ofString "is_text", PySem.Str.ofString "are_letters", PySem.Str.ofString "is_text_over", PySem.Str.ofString "want_few", PySem.Str.ofString "is_row", PySem.Str.ofString "want_machine", PySem.Str.ofString "met_from", PySem.Str.ofString "machine_from", PySem.Str.ofString "Machine", PySem.Str.ofString "want_text", PySem.Str.ofString "want_letter", PySem.Str.ofString "want_place", PySem.Str.ofString "want_same", PySem.Str.ofString "want_right", PySem.Str.ofString "led", PySem.Str.ofString "is_taken", PySem.Str.ofString "contrary", PySem.Str.ofString "is_so", PySem.Str.ofString "paired_by", PySem.Str.ofString "numbers_of", PySem.Str.ofString "classes_of", PySem.Str.ofString "least_made", PySem.Str.ofString "least_of", PySem.Str.ofString "made_least", PySem.Str.ofString "SMALL_products", PySem.Str.ofString "STAR", PySem.Str.ofString "MOST_IN_STAR", PySem.Str.ofString "MOST_PIECES", PySem.Str.ofString "LOST", PySem.Str.ofString "is_star", PySem.Str.ofString "letters_in", PySem.Str.ofString "are_rising", PySem.Str.ofString "is_piece", PySem.Str.ofString "is_product", PySem.Str.ofString "is_product_over", PySem.Str.ofString "holds", PySem.Str.ofString "place_behind", PySem.Str.ofString "place_by", PySem.Str.ofString "has_text", PySem.Str.ofString "lies_within", PySem.Str.ofString "reduced_of", PySem.Str.ofString "kept_of", PySem.Str.ofString "met_behind", PySem.Str.ofString "meet_of", PySem.Str.ofString "MOST_PARTS_LETTERS", PySem.Str.ofString "MOST_TEXTS", PySem.Str.ofString "MOST_WITHOUT_LETTERS", PySem.Str.ofString "sum_of", PySem.Str.ofString "all_within", PySem.Str.ofString "meets_of", PySem.Str.ofString "left_behind", PySem.Str.ofString "product_without", PySem.Str.ofString "want_letters", PySem.Str.ofString "want_texts", PySem.Str.ofString "most_letters", PySem.Str.ofString "Sum", PySem.Str.ofString "DIGITS", PySem.Str.ofString "KINDS", PySem.Str.ofString "line_of", PySem.Str.ofString "machine_lines", PySem.Str.ofString "sum_lines", PySem.Str.ofString "text_of", PySem.Str.ofString "bytes_of", PySem.Str.ofString "goal_of", PySem.Str.ofString "MachineReader", PySem.Str.ofString "SumReader", PySem.Str.ofString "read_by", PySem.Str.ofString "read_machine", PySem.Str.ofString "read_sum", PySem.Str.ofString "_law_pot", PySem.Str.ofString "_law_draw", PySem.Str.ofString "_law_pick", PySem.Str.ofString "_law_piece", PySem.Str.ofString "_law_products", PySem.Str.ofString "_law_text", PySem.Str.ofString "_law_line", PySem.Str.ofString "_law_has", PySem.Str.ofString "_law_asked_right", PySem.Str.ofString "_law_thing", PySem.Str.ofString "_law_right"]
theorem fw {row : String} {p : World → Prop} (h : ∀ (b : Bool) (w : World), p (w.withFollow row b)) : ∀ w, p w := fun w => by
  have := h (w.params.followText row) w
  rwa [World.withFollow_self] at this
theorem head3r {row : String} {r : OpenRow} {p q : Program} {H : Hook} {ob : SharedT → H.α} {M : Nat} {loose : List PySem.Str} {d : DefRec} {kwd : List (PySem.Str × PySem.Expr)} (hr : r.prog = p) (hrec : r.toRowW.records = [])
    (ho : ∀ s : SharedT, ob s = H.obs s.abs)
    (e : opening p = plainProg p.main.scope.names) (f : ∀ s, fenceModules? p s = some s)
    (rA : ∀ w os, (endOf p M w os).map (fun s => looksF p (boot_heap w.params) s.abs) = some true)
    (rB : ∀ w os, (endOf p M w os).map (fun s => seenQ q loose (importedModules p.main.body) (fun s => xlAt q [] s && recOk [] s) s.abs) = some (openGood q loose))
    (rC : ∀ (w : World) os, (endOf p M (w.withFollow row false) os).map ob = some (H.val w))
    (hdef : defOf q r.name = some (d, kwd)) (hp : r.prog.theDef r.name = some (d.params, d.body, d.scope)) (hk : kwWritten? d.params.kwonlyargs d.params.kw_defaults = some kwd)
    (hwr : (!r.writes || r.records.isEmpty) = true) (k1 : r.wellSaid = true) (ok : (chainsOk q && opensWell r.prog && (frees r.toRowW && r.within.isEmpty)) = true) (hb : r.prog.bare) (hw : r.toRowW.promised)
    (call : (∀ (w : World) os, (endOf p M (w.withFollow row true) os).map ob = some (H.val w)) ∧ WalkO q loose (XL q []) H.says r.toRowW d kwd fun f vs => PySem.call f vs) : r.Holds :=
  head3 hr hrec ho e f rA rB (fun w os => by
    have h : ∀ b, (endOf p M (w.withFollow row b) os).map ob = some (H.val w) := fun b => by cases b; exact rC w os; exact call.1 w os
    have := h (w.params.followText row)
    rwa [World.withFollow_self] at this) hdef hp hk hwr k1 ok hb hw call.2
theorem hdAf : ∀ (w : World) os, (endOf pz 19024 (w.withFollow "special-get-raises" false) os).map (fun s => (looksF pz (boot_heap (w.withFollow "special-get-raises" false).params) s.abs, seenAt pz qz lz s)) = some (true, openGood qz lz) := by
  intro w os; kernel_rfl
theorem hdAt : ∀ (w : World) os, (endOf pz 19024 (w.withFollow "special-get-raises" true) os).map (fun s => (looksF pz (boot_heap (w.withFollow "special-get-raises" true).params) s.abs, seenAt pz qz lz s)) = some (true, openGood qz lz) := by
  intro w os; kernel_rfl
theorem hdA : ∀ w os, (endOf pz 19024 w os).map (fun s => (looksF pz (boot_heap w.params) s.abs, seenAt pz qz lz s)) = some (true, openGood qz lz) := by
  refine fw (row := "special-get-raises") (fun b w => ?_); intro os; cases b; exact hdAf w os; exact hdAt w os
local macro_rules | `(tactic| o_head ($f $k $a $e $t)) => `(tactic| (
  refine' head3r (row := "special-get-raises") (p := pz) (q := qz) (loose := lz) (M := 19024) (H := $f $k $a $e $t) (ob := kmOb $a $t) rfl rfl (fun s => kmOb_ok s) ?e ?f (fun w os => map_l (hdA w os)) (fun w os => map_r (hdA w os)) ?rC (by rfl) (by rfl) (by rfl) (by rfl) (by first | assumption | decide +kernel) (by decide +kernel) ⟨rfl, rfl, rfl, rfl, rfl, by decide +kernel⟩ ?hw ?hc
  (case e => kernel_rfl)
  (case f => intro s; kernel_rfl)
  (case rC => intro w os; kernel_rfl)))
set_option maxHeartbeats 0 in
open_top hd0 for PySem.Challenge.rw_missedparts_k91_whole_texts_of_sums
def hd := fun h => hd0 ⟨(by intro w os; kernel_rfl), h⟩
end Lw
namespace L3
open PySem PySem.Spec PyProof.Rows L2
/-- as FnOk, where no guard stands around -/
structure FnOkG (P : Program) (w : World) (K : PySem.W.Frag) (mg : Str → Option Value) (base : Heap) (CX : CXT) (k : Nat) (f : Addr) (fd : FuncData) (ps : List Str) (sp : Sp) : Prop where
  len : ∀ vs H Q E, sp vs H Q E → vs.length = ps.length
  run : ∀ (A : Around) (outer : List Env) (s : Shared) (H : Hp) (args : Args) (us : List Value) (vs : List V) (Q : VK) (E : XK), Room k A → A.guards = some [] → Env0 P w K mg base A outer s H → BindsTo s fd args (ps.zip us) → Vals vs us → sp vs H Q E →
    codeAny (model P w) A (.call (.ref f) args) (CR CX outer P w H s Q E) s
theorem FnOkG.of {P : Program} {w : World} {K : PySem.W.Frag} {mg : Str → Option Value} {base : Heap} {CX : CXT} {k : Nat} {f : Addr} {fd : FuncData} {ps : List Str} {sp : Sp} (F : FnOk P w K mg base CX k f fd ps sp) : FnOkG P w K mg base CX k f fd ps sp :=
  ⟨F.len, fun A outer s H args us vs Q E hr _ => F.run A outer s H args us vs Q E hr⟩
theorem FnOkG.mono {P : Program} {w : World} {K : PySem.W.Frag} {mg : Str → Option Value} {base : Heap} {CX : CXT} {j k : Nat} {f : Addr} {fd : FuncData} {ps : List Str} {sp : Sp} (F : FnOkG P w K mg base CX j f fd ps sp) (h : j ≤ k) : FnOkG P w K mg base CX k f fd ps sp :=
  ⟨F.len, fun A outer s H args us vs Q E hr => F.run A outer s H args us vs Q E (hr.mono h)⟩
section
variable {P : Program} {w : World} {K : PySem.W.Frag} {mg : Str → Option Value} {base : Heap}
theorem fn_ofG {CX : CXT} {k : Nat} {f : Addr} {name qual : Str} {params : Arguments} {body : List Stmt} {scope : Scope} {dV kV doc pm cdv ct oc : Value} {an od : Option Addr}
    {osl : Array (Option Value)} {N ps : List Str} {sp : Sp} (lk : K.lookup f = some ⟨oc, od, .func (PySem.W.fnOf name qual params body scope dV kV doc pm an cdv ct), osl⟩) (hcd : PySem.W.codeIn K cdv qual = true) (S : FnScope N ps scope)
    (len : ∀ vs H Q E, sp vs H Q E → vs.length = ps.length)
    (hbody : ∀ (A : Around) (outer : List Env) (s : Shared) (H : Hp) (vs : List V) (Q : VK) (E : XK), Room k (A.deeper (envOfC qual scope s.heap.objs.size f cdv)) → A.guards = some [] → sp vs H Q E →
      ∃ t, PSs (cxOf CX P w K mg base N qual scope f cdv A outer s H E) body t ∧ t { nx := fun _ H' => Q .non H', rt := Q } (L2.start N vs) H) :
    FnOkG P w K mg base CX (k + 1) f (PySem.W.fnOf name qual params body scope dV kV doc pm an cdv ct) ps sp := by
  refine ⟨len, fun A outer s H args us vs Q E hr hg e0 hb r hsp => ?_⟩
  exact LamX.run_ofS lk hcd S hr e0 hb r (len _ _ _ _ hsp) fun hr' => hbody A outer s H vs Q E hr' hg hsp
theorem okG {x qual : Str} {st : Stmt} {f : Addr} {fd : FuncData} {N ps : List Str} {k : Nat} {sp : Sp} (F : Fun K x qual st f fd) (S : FnScope N ps (defScope st)) (len : ∀ vs H Q E, sp vs H Q E → vs.length = ps.length)
    (hbody : ∀ (cdv : Value) (A : Around) (outer : List Env) (s : Shared) (H : Hp) (vs : List V) (Q : VK) (E : XK), Room k (A.deeper (envOfC qual (defScope st) s.heap.objs.size f cdv)) → A.guards = some [] → sp vs H Q E →
      ∃ t, PSs (cxOf CX0 P w K mg base N qual (defScope st) f cdv A outer s H E).nox (defBody st) t ∧ t { nx := fun _ H' => Q .non H', rt := Q } (L2.start N vs) H) : FnOkG P w K mg base CX0 (k + 1) f fd ps sp := by
  obtain ⟨oc, od, kV, doc, pm, an, cdv, ct, osl, rfl, lk, hcd⟩ := F.ex
  refine fn_ofG lk hcd S len fun A outer s H vs Q E hr hg hsp => ?_
  obtain ⟨t, h, q⟩ := hbody cdv A outer s H vs Q E hr hg hsp
  exact ⟨t, h.nox, q⟩
end
section
variable {X : Cx} {CX : CXT} {k : Nat} {f : Addr} {fd : FuncData} {ps ks : List Str} {sp : Sp} {E : XK} {x : Str} {p pos : Pos} {e : Expr} {es : List Expr} {kws : List Keyword} {t tk : TA} {g : List Value → List Value → List Value} {gV : List V → List V → List V}
theorem run_fnG {pins : List (Addr × Obj)} {σ : L2.St} {H : Hp} {s : Shared} {Q : VK} {us ws : List Value} {vs : List V} {kw : List (Str × Value)} (F : FnOkG X.prog X.w X.K X.mg X.base CX k f fd ps sp) (hr : Room k X.A) (hG : X.A.guards = some []) (hx : Passes CX X E)
    (I : Inv X pins σ H s) (hb : BindsTo s fd ⟨us, kw⟩ (ps.zip ws)) (r : Vals vs ws) (h : sp vs H Q E) : wpAny (model X.prog X.w) X.A (call (.ref f) us kw) (EP X pins σ Q) X.xe s := by
  refine wpAny_call (codeAny_mono (F.run X.A X.stack s H ⟨us, kw⟩ ws vs Q E hr hG I.env0 hb r h) fun r s' hq => ?_)
  cases r with
  | error e => exact hx pins σ H s e s' I hq
  | ok fl =>
    cases fl with
    | ret u => exact I.after hq
    | next => exact False.elim hq
    | brk => exact False.elim hq
    | cont => exact False.elim hq
/-- f(e, ..) -/
theorem pe_callG (F : FnOkG X.prog X.w X.K X.mg X.base CX k f fd ps sp) (hr : Room k X.A) (hG : X.A.guards = some []) (hg : Gl X x) (hm : X.mg x = some (.ref f)) (hk : PySem.W.keepIn X.K (.ref f) = true) (hb : L2.Binds X.K fd ps []) (hx : Passes CX X E)
    (ha : PA X (e :: es) t) (hdb : (x == ("__debug__" : Str)) = false := by decide) (he : starEach (e :: es) X.env = (false, eval e X.env) :: starEach es X.env := by rfl) (hpl : (backTo pos (starEach es X.env)).any (·.1) = false := by rfl) :
    PE X (.Call (.Name x p) (e :: es) [] pos) (tCall sp [] E t) := by
  refine ⟨fun pins s σ H Q I h => ?_⟩
  refine wpAny_Call_Name_kw (ld_glob I hg hm ?_ hdb)
  refine PySem.W.callWith_K (h₀ := X.base) I.ok.mod.kin hk (thn (ha.run pos pins s σ H _ I h) fun us s1 ⟨vs, H1, I1, r, q⟩ => ⟨I1.kIn, ?_⟩) he hpl
  have q : sp (vs ++ []) H1 Q E := q
  rw [List.append_nil] at q
  have hl : (us ++ []).length = ps.length := by rw [List.append_nil, ← r.length]; exact F.len _ _ _ _ q
  exact run_fnG F hr hG hx I1 (hb s1 us I1.kIn hl) (by rw [List.append_nil]; exact r) q
/-- f(k = v, ..), keywords alone -/
theorem pe_callK0 (F : FnOkG X.prog X.w X.K X.mg X.base CX k f fd ps sp) (hr : Room k X.A) (hG : X.A.guards = some []) (hg : Gl X x) (hm : X.mg x = some (.ref f)) (hk : PySem.W.keepIn X.K (.ref f) = true) (hb : KBinds X.K fd ps ks g gV) (hx : Passes CX X E)
    (hkw : PK X kws tk) (hall : (backToKw pos (keywordEach kws X.env)).all (·.1.isSome) = true := by rfl) (hks : (backToKw pos (keywordEach kws X.env)).filterMap (·.1) = ks := by rfl)
    (hdb : (x == ("__debug__" : Str)) = false := by decide)
    (hpl : ((backTo pos (starEach [] X.env)).any (·.1) || (backToKw pos (keywordEach kws X.env)).any (·.1.isNone)) = false := by rfl) :
    PE X (.Call (.Name x p) [] kws pos) (tCallK sp gV E tNil tk) := by
  refine ⟨fun pins s σ H Q I h => ?_⟩
  refine wpAny_Call_Name_kw (ld_glob I hg hm ?_ hdb)
  refine PySem.W.callWith_KW0 (h₀ := X.base) I.ok.mod.kin hk hall (thn (hkw.run pos pins s σ H _ I h) fun ws s2 ⟨zs, H2, I2, rz, q2⟩ => ⟨I2.kIn, ?_⟩) hpl
  rw [hks]
  have r2 := hb.rel (vs := []) (us := []) .nil rz
  have hl : (g [] ws).length = ps.length := by rw [← r2.length]; exact F.len _ _ _ _ q2
  exact run_fnG F hr hG hx I2 (hb.to s2 [] ws I2.kIn hl) r2 q2
end
end L3
namespace L3
open PySem PySem.Spec PyProof.Rows L2
/-- a text by its codes -/
abbrev tS (l : List Nat) : Str := ⟨l.toArray⟩
abbrev tx (l : List Nat) : V := .str (tS l)
theorem tS_len (l : List Nat) : (tS l).length = l.length := by show l.toArray.size = _; simp
theorem tS_inj {a b : List Nat} (h : tS a = tS b) : a = b := by
  have h2 : a.toArray = b.toArray := congrArg Str.cps h
  simpa using congrArg Array.toList h2
theorem tS_app (a b : List Nat) : tS a ++ tS b = tS (a ++ b) := by
  show (⟨a.toArray ++ b.toArray⟩ : Str) = _
  simp
theorem tx_inj {a b : List Nat} (h : tx a = tx b) : a = b := tS_inj (V.str.inj h)
theorem tx_dec (a b : List Nat) : decide (tx a = tx b) = decide (a = b) := by
  by_cases e : a = b
  · subst e; simp
  · rw [decide_eq_false e, decide_eq_false fun h => e (tx_inj h)]
section
variable {X : Cx}
theorem op_addT : OpR X (binaryOp .Add) (fun x y H Q => ∃ a b, x = tx a ∧ y = tx b ∧ a.length + b.length ≤ sizeLine ∧ Q (tx (a ++ b)) H) := by
  intro pins s σ H x y v u Q I rx ry h
  obtain ⟨a, b, rfl, rfl, hz, q⟩ := h
  exact op_add_str pins s σ H _ _ v u Q I rx ry ⟨_, _, rfl, rfl, by rw [tS_len, tS_len]; exact hz, by rw [tS_app]; exact q⟩
end
end L3
namespace L3
open PySem PySem.Spec PyProof.Rows L2
mutual
theorem dp_noDict {K : PySem.W.Frag} {H : Hp} : ∀ {v : V} {d : PyData}, Dp K H v d → d.hasDict = false
  | _, .none, _ => by simp only [PyData.hasDict]
  | _, .bool _, _ => by simp only [PyData.hasDict]
  | _, .int _, _ => by simp only [PyData.hasDict]
  | _, .str _, _ => by simp only [PyData.hasDict]
  | _, .list ds, h => by
    cases h with
    | lst hs ha => simp only [PyData.hasDict]; exact dpAll_noDict ha
  | _, .tuple ds, h => by
    cases h with
    | tup hs ha => simp only [PyData.hasDict]; exact dpAll_noDict ha
  | _, .dict _, h => by cases h
theorem dpAll_noDict {K : PySem.W.Frag} {H : Hp} : ∀ {vs : List V} {ds : List PyData}, DpAll K H vs ds → PyData.hasDictAll ds = false
  | _, [], _ => by simp only [PyData.hasDictAll]
  | _, d :: ds, h => by
    cases h with
    | cons h1 h2 => simp only [PyData.hasDictAll, dp_noDict h1, dpAll_noDict h2, Bool.or_self]
end
theorem len_toL (acc : Array Value) : acc.toList.length = acc.size := by simp
section
variable {X : Cx}
/-- repr(x) of data: none, bools, ints, texts, lists, tuples -/
def rRepr (K : PySem.W.Frag) : List V → Hp → VK → Prop := fun xs H Q => ∃ (x : V) (d : PyData), xs = [x] ∧ Dp K H x d ∧ d.showable = true ∧ d.shown.length ≤ sizeLine ∧ d.depth ≤ 50 ∧ Q (.str d.shown) H
theorem call_reprD {k : Nat} (hr : Room k X.A) (hG : X.A.guards = some []) : CallR X (.builtin "repr") (rRepr X.K) := by
  intro pins s σ H xs us Q I r h
  obtain ⟨x, d, rfl, hd, hs, hz, hdp, q⟩ := h
  obtain ⟨u, rfl, rx⟩ := vals1 r
  have hu := hr.units
  cases hd with
  | non => cases rx; exact P.repr_of_none ⟨.str _, H, I.tok _, ⟨_, rfl⟩, q⟩
  | bl b => cases rx; exact P.repr_of_bool ⟨.str _, H, I.tok _, ⟨_, rfl⟩, q⟩
  | int i =>
    obtain ⟨t, rfl⟩ := rx
    have hs' : i.natAbs.log2 < 1920 := by simpa [PyData.showable] using hs
    exact P.repr_of_int hs' ⟨.str _, H, I.tok _, ⟨_, rfl⟩, q⟩
  | str z =>
    obtain ⟨t, rfl⟩ := rx
    exact P.repr_of_str ⟨.str _, H, I.tok _, ⟨_, rfl⟩, q⟩ hz
  | @lst a xs ds hq ha =>
    cases rx
    obtain ⟨as, hR⟩ := Dp.reads I (.list ds) (.ref a) (.ref a) (.lst hq ha) rfl
    refine repr_of_reads' hR hs (PyData.noDict_hsm (dp_noDict (K := X.K) (H := H) (.lst hq ha))) hG (by omega) (fun _ _ e => e) (fun h' t tk hk => ?_) hz
    exact ⟨.str _, H, I.kept hk, ⟨_, rfl⟩, q⟩
  | @tup a xs ds hq ha =>
    cases rx
    obtain ⟨as, hR⟩ := Dp.reads I (.tuple ds) (.ref a) (.ref a) (.tup hq ha) rfl
    refine repr_of_reads' hR hs (PyData.noDict_hsm (dp_noDict (K := X.K) (H := H) (.tup hq ha))) hG (by omega) (fun _ _ e => e) (fun h' t tk hk => ?_) hz
    exact ⟨.str _, H, I.kept hk, ⟨_, rfl⟩, q⟩
/-- list(text) -/
theorem call_listT (hc : X.calm = true) : CallR X (.type "list") (fun xs H Q => ∃ l, xs = [tx l] ∧ l.length ≤ sizeLine ∧ ∀ p, H p = none → Q (.ref p) (upd H p (.lst (l.map fun c => tx [c])))) := by
  intro pins s σ H xs us Q I r h
  obtain ⟨l, rfl, hz, q⟩ := h
  obtain ⟨u, rfl, rx⟩ := vals1 r
  obtain ⟨t, rfl⟩ := rx
  refine call_list_str (I.ok.hd hc) (tS l) t (fun h' tk acc c hk hS hacc => ?_) (by show l.toArray.size ≤ _; simpa using hz)
  have hl : acc.size = l.length := by rw [hacc.1]; simp [tS]
  have hv : Vals (l.map fun c => tx [c]) acc.toList := vals_of_at (by rw [List.length_map, len_toL, hl]) fun j x w h1 h2 => by
    obtain ⟨c, t, e1, e2⟩ := hacc.2 j w (by rw [← Array.getElem?_toList]; exact h2)
    have e3 : l[j]? = some c := by simpa [tS] using e1
    rw [List.getElem?_map, e3] at h1
    cases h1
    subst e2
    exact ⟨t, rfl⟩
  exact ⟨.ref s.heap.objs.size, upd H s.heap.objs.size (.lst (l.map fun c => tx [c])), I.laid (t' := tk) hk (Nat.le_refl _)
    (show ObjOk X.prog X.w _ _ _ (.lst (l.map fun c => tx [c])) from ⟨by rw [List.length_map]; exact hz, acc.toList, c, hv, by rw [Array.toArray_toList]; exact hS⟩), rfl, q _ (I.hok.fresh (Nat.le_refl _))⟩
end
end L3
namespace L3
open PySem PySem.Spec PyProof.Rows L2
end L3
namespace L3
open PySem PySem.Spec PyProof.Rows L2
end L3
namespace L3
open PySem PySem.Spec PyProof.Rows L2
end L3
namespace L3
open PySem PySem.Spec PyProof.Rows L2
end L3
namespace L3
open PySem PySem.Spec PyProof.Rows L2
/-- the tracked heap at the law's call: the script (locked), where it is not written, and the tables -/
def H0 (K : PySem.W.Frag) (a : Addr) (vs : List Value) (ns : List Int) (cs : List (Addr × Addr)) : Hp := fun b =>
  if b = a then (if (K.lookup a).isSome then none else some (.frz { cls := .type "list", data := .seq vs.toArray } (.lst (ns.map V.int)))) else if b ∈ cs.map (·.2) then some (.tbl #[]) else none
theorem law_callG {P : Program} {w : World} {K : PySem.W.Frag} {mg mb : Str → Option Value} {k : Nat} {fa a : Addr} {cs : List (Addr × Addr)} {fd : FuncData} {x : Str} {sp : Sp} {s₁ : Shared} {vs : List Value} {ns : List Int}
    (KX : K.In s₁.heap) (hns : s₁.heap.Ns mainGlobals mg) (hb : s₁.heap.Ns builtinsNs mb) (hbb : ∀ x : Str, x ≠ "__name__" → mb x = bootBuiltins x) (hlim : s₁.heap.NoLimit) (hg : s₁.gens = #[])
    (hT : ∀ p ∈ cs, s₁.heap.get? p.2 = some { cls := .none, data := .fields #[] }) (nT : ∀ p ∈ cs, K.lookup p.2 = none) (C : ∀ p ∈ cs, PySem.W.CodeHd s₁.heap p.1 p.2)
    (hbm : ∃ (bm : Addr) (ob : Obj), mg "__builtins__" = some (.ref bm) ∧ bm ≠ builtinsNs ∧ s₁.heap.get? bm = some ob ∧ ob.cls = .type "module" ∧ ob.dict = some builtinsNs ∧ ob.data = .plain)
    (ha : s₁.heap.get? a = some { cls := .type "list", data := .seq vs.toArray }) (hi : IntsAre vs ns) (hl : ns.length ≤ sizeLine) (hr : Room k callerA)
    (F : ∀ base : Heap, K.In base → base.Ns mainGlobals mg → (∀ p ∈ cs, LamX.TabB base mg p.1 p.2) → FnOkG P w K mg base CX0 k fa fd [x] sp) (hbind : L2.Binds K fd [x] [])
    (hsp : ∀ H : Hp, (∀ p ∈ cs, H p.2 = some (.tbl #[])) → SqL K H a (ns.map V.int) → sp [.ref a] H (fun v _ => v = .bl true) fun _ _ _ => False) :
    codeAny (model P w) callerA (.call (.ref fa) ⟨[.ref a], []⟩) (fun r s' => r = .ok (.ret (.bool true)) ∧ OldK s₁.heap s'.heap ∧ s'.os = s₁.os ∧ AllBare s'.gens) s₁ := by
  have rv := vals_ints hi
  have lenV := hi.length
  have isT : ∀ b : Addr, b ∈ cs.map (·.2) → s₁.heap.get? b = some { cls := .none, data := .fields #[] } := fun b hb => by
    obtain ⟨p, hp, e⟩ := List.mem_map.mp hb
    rw [← e]; exact hT p hp
  have aT : a ∉ cs.map (·.2) := fun z => by
    have q := isT a z
    rw [ha] at q
    cases congrArg Obj.data (Option.some.inj q)
  have memT : ∀ p ∈ cs, p.2 ∈ cs.map (·.2) := fun p hp => List.mem_map.mpr ⟨p, hp, rfl⟩
  -- the three cases of H0
  have hcase : ∀ b, (b = a ∧ H0 K a vs ns cs b = none ∧ (K.lookup a).isSome = true) ∨ (b = a ∧ K.lookup a = none ∧ H0 K a vs ns cs b = some (.frz { cls := .type "list", data := .seq vs.toArray } (.lst (ns.map V.int)))) ∨
      (b ≠ a ∧ b ∈ cs.map (·.2) ∧ H0 K a vs ns cs b = some (.tbl #[])) ∨ (b ≠ a ∧ b ∉ cs.map (·.2) ∧ H0 K a vs ns cs b = none) := fun b => by
    unfold H0
    by_cases e : b = a
    · rw [if_pos e]
      cases hk : K.lookup a with
      | some o => exact .inl ⟨e, rfl, rfl⟩
      | none => exact .inr (.inl ⟨e, rfl, rfl⟩)
    · rw [if_neg e]
      by_cases e2 : b ∈ cs.map (·.2)
      · rw [if_pos e2]; exact .inr (.inr (.inl ⟨e, e2, rfl⟩))
      · rw [if_neg e2]; exact .inr (.inr (.inr ⟨e, e2, rfl⟩))
  have tabAt : ∀ p ∈ cs, H0 K a vs ns cs p.2 = some (.tbl #[]) := fun p hp => by
    rcases hcase p.2 with ⟨e, _⟩ | ⟨e, _⟩ | ⟨_, _, z⟩ | ⟨_, n, _⟩
    · exact absurd (e ▸ memT p hp) aT
    · exact absurd (e ▸ memT p hp) aT
    · exact z
    · exact absurd (memT p hp) n
  have free : ∀ {b : Addr} {o : Obj}, s₁.heap.get? b = some o → (∀ vs n, o.data ≠ .seq vs n) → o.data ≠ .fields #[] → H0 K a vs ns cs b = none := fun {b o} e h1 h2 => by
    rcases hcase b with ⟨_, z, _⟩ | ⟨e', _⟩ | ⟨_, e', _⟩ | ⟨_, _, z⟩
    · exact z
    · rw [e', ha] at e
      cases e
      exact absurd rfl (h1 _ _)
    · rw [isT b e'] at e
      cases e
      exact absurd rfl h2
    · exact z
  have nsK : ∀ {b : Addr} {m : Str → Option Value}, s₁.heap.Ns b m → (hidT s₁.heap (H0 K a vs ns cs)).Ns b m := fun {b m} ⟨o, es, ep, e, d, r⟩ =>
    ⟨o, es, ep, hidT_get e (free e (fun vs n z => by rw [d] at z; cases z) fun z => by rw [d] at z; cases z), d, r⟩
  have hKb : K.In (hidT s₁.heap (H0 K a vs ns cs)) := fun b o e => hidT_get (KX b o e) (by
    rcases hcase b with ⟨_, z, _⟩ | ⟨e', n, _⟩ | ⟨_, e', _⟩ | ⟨_, _, z⟩
    · exact z
    · rw [e', n] at e; cases e
    · obtain ⟨p, hp, ep⟩ := List.mem_map.mp e'
      rw [← ep, nT p hp] at e
      cases e
    · exact z)
  have hM : L2.Mod K mg (hidT s₁.heap (H0 K a vs ns cs)) := ⟨hKb, nsK hns, ⟨mb, nsK hb, hbb⟩, let ⟨mc, h1, h2⟩ := hlim; ⟨mc, nsK h1, h2⟩⟩
  have TB : ∀ p ∈ cs, LamX.TabB (hidT s₁.heap (H0 K a vs ns cs)) mg p.1 p.2 := fun p hp => by
    have hTp := hT p hp
    refine ⟨?_, ?_, fun z => ?_⟩
    · obtain ⟨o, us, file, tf, flags, tg, inF, text, tt, e1, r1, r2, r3, r⟩ := C p hp
      refine ⟨o, us, file, tf, flags, tg, inF, text, tt, hidT_get e1 (free e1 (fun vs n z => by rw [r2] at z; cases z) fun z => ?_), r1, r2, r3, r⟩
      rw [r2] at z
      cases z
      simp at r3
    · obtain ⟨bm, ob, b1, b2, b3, b4, b5, b6⟩ := hbm
      refine ⟨bm, ob, b1, b2, fun q => ?_, fun q => ?_, hidT_get b3 (free b3 (fun vs n z => by rw [b6] at z; cases z) fun z => by rw [b6] at z; cases z), b4, b5, b6⟩
      · obtain ⟨o, es, ep, e, hd, _⟩ := hns
        rw [q, e] at b3
        cases b3
        rw [hd] at b6
        cases b6
      · rw [q, hTp] at b3
        cases b3
        cases b6
    · obtain ⟨o, es, ep, e, hd, _⟩ := hns
      rw [z, hTp] at e
      cases e
      cases hd
  have hok : HOk P w (H0 K a vs ns cs) s₁.heap := fun b u z => by
    rcases hcase b with ⟨_, n, _⟩ | ⟨e', _, q⟩ | ⟨_, e', q⟩ | ⟨_, _, n⟩
    · rw [n] at z; cases z
    · rw [q] at z
      cases z
      rw [e']
      exact ⟨ha, by rw [List.length_map]; exact hl, vs, _, rv, ha⟩
    · rw [q] at z
      cases z
      exact isT b e'
    · rw [n] at z; cases z
  have hS : SqL K (H0 K a vs ns cs) a (ns.map V.int) := by
    rcases hcase a with ⟨_, _, hk⟩ | ⟨_, _, q⟩ | ⟨n, _⟩ | ⟨n, _⟩
    · obtain ⟨o, hk⟩ := Option.isSome_iff_exists.mp hk
      have e := KX a o hk
      rw [ha] at e
      cases e
      exact .inr ⟨_, vs.toArray, _, hk, rfl, rfl, rfl, by rw [List.size_toArray, lenV]; exact hl, by simpa using rv⟩
    · exact .inl (.inr ⟨_, q⟩)
    · exact absurd rfl n
    · exact absurd rfl n
  have e0 : Env0 P w K mg (hidT s₁.heap (H0 K a vs ns cs)) callerA [] s₁ (H0 K a vs ns cs) := ⟨rfl, hM, fun b o e => of_hidT e, Nat.le_of_eq (hidT_size _ _), trivial, fun b hb => absurd (show b ∈ ([] : List Addr) from hb) (by simp), hok, .of_eq hg⟩
  refine codeAny_mono ((F _ hKb (nsK hns) TB).run callerA [] s₁ (H0 K a vs ns cs) ⟨[.ref a], []⟩ [.ref a] [.ref a] _ _ hr rfl e0 (hbind s₁ [.ref a] KX rfl) (.cons rfl .nil) (hsp _ tabAt hS)) fun r s' h => ?_
  cases r with
  | error e => exact (show False from h).elim
  | ok fl =>
    cases fl with
    | next => exact False.elim h
    | brk => exact False.elim h
    | cont => exact False.elim h
    | ret u =>
      obtain ⟨v, H', os, bare, un, hok', r', q⟩ := h
      have q' : v = .bl true := q
      subst q'
      obtain rfl : u = Value.bool true := r'
      have key : ∀ b o, b ∉ cs.map (·.2) → s₁.heap.get? b = some o → s'.heap.get? b = some o := fun b o nb e => by
        rcases hcase b with ⟨_, n, _⟩ | ⟨_, _, z⟩ | ⟨_, e', _⟩ | ⟨_, _, n⟩
        · exact un.keep b o e n (fun z => absurd (show b ∈ ([] : List Addr) from z) (by simp)) (by simp)
        · have z2 := un.frzs b _ _ z
          obtain ⟨e1, _⟩ := hok b _ z
          obtain ⟨e2, _⟩ := hok' b _ z2
          rw [e] at e1
          cases e1
          exact e2
        · exact absurd e' nb
        · exact un.keep b o e n (fun z => absurd (show b ∈ ([] : List Addr) from z) (by simp)) (by simp)
      have grown : ∀ p ∈ cs, ∃ more : Array Value, s'.heap.get? p.2 = some { cls := .none, data := .fields more } := fun p hp => by
        obtain ⟨more, z⟩ := un.tbls p.2 #[] (tabAt p hp)
        exact ⟨_, hok' p.2 _ z⟩
      refine ⟨rfl, ⟨fun b o e => ?_, fun b o e => ?_⟩, os, bare⟩
      · by_cases hb : b ∈ cs.map (·.2)
        · obtain ⟨p, hp, ep⟩ := List.mem_map.mp hb
          obtain ⟨more, hm⟩ := grown p hp
          rw [← ep] at e ⊢
          rw [hT p hp] at e
          cases e
          exact .inr (.inl ⟨((C p hp).tab (hT p hp)).isCodeTable, rfl, #[], more, rfl, by rw [Array.empty_append]; exact hm⟩)
        · exact .inl (key b o hb e)
      · by_cases hb : b ∈ cs.map (·.2)
        · obtain ⟨p, hp, ep⟩ := List.mem_map.mp hb
          obtain ⟨more, hm⟩ := grown p hp
          rw [← ep]
          exact ⟨_, hm⟩
        · exact ⟨o, key b o hb e⟩
end L3
namespace L3
open PySem PySem.Spec PyProof.Rows L2
theorem same_upd {H : Hp} {p : Addr} {o : HO} (h : H p = none) : Same H (upd H p o) := fun b x e => by
  rw [upd_ne (ne_of_none e h)]
  exact e
theorem same_up {H H' : Hp} {p : Addr} {o : HO} (s : Same H H') (h : H p = none) : Same H (upd H' p o) := fun b x e => by
  rw [upd_ne (ne_of_none e h)]
  exact s b x e
/-- a comprehension: R of the heap, A of the list so far -/
theorem lc_gen {J : It} {n : Nat} {G : Hp → Prop} {Y : Nat → Hp → V → Hp → Prop} (w : Walk J n G Y) {g : TG} {tt : TT} {te : TE} {vs : List Nat} {σ : L2.St} {H1 : Hp} {D : Addr} {Qd : Hp → Prop} (R : Hp → Prop) (A : Nat → List V → Prop) (hz : n ≤ sizeLine) (hA : ∀ i acc, A i acc → acc.length ≤ i)
    (h0 : A 0 []) (r0 : R (upd H1 D (.lst []))) (r1 : ∀ H x, R H → R (upd H D x)) (hG : ∀ H, R H → G H)
    (hs : ∀ i x H H' acc (C : VK) (N : Hp → Prop), i < n → R H → H D = some (.lst acc) → A i acc → Y i H x H' → (∀ v H4, R H4 → H4 D = some (.lst acc) → A (i + 1) (acc ++ [v]) → C v H4) → (∀ H3, R H3 → H3 D = some (.lst acc) → A (i + 1) acc → N H3) →
      g x (wipe σ vs) H' fun σ2 H2 => wipe σ2 vs = wipe σ vs ∧ tt σ2 H2 fun b H3 => if b = true then te σ2 H3 C else N H3)
    (hd : ∀ H xs, R H → H D = some (.lst xs) → A n xs → Qd H) :
    ∃ W : Nat → Nat → Hp → Prop, (∃ m, W 0 m (upd H1 D (.lst []))) ∧ ∀ i m H, W i m H →
      (J.stop i H ∧ Qd H) ∨ (J.go i H ∧ ∃ Nx : Hp → Prop, (∀ H', Nx H' → ∃ m', m' < m ∧ W (i + 1) m' H') ∧ ∀ x H', J.yld i H x H' → g x (wipe σ vs) H' fun σ2 H2 => wipe σ2 vs = wipe σ vs ∧ tt σ2 H2 fun b H3 =>
        if b = true then te σ2 H3 fun y H4 => ∃ acc, H4 D = some (.lst acc) ∧ acc.length < sizeLine ∧ Nx (upd H4 D (.lst (acc ++ [y]))) else Nx H3) := by
  refine lc_it w (fun i H => R H ∧ ∃ acc, H D = some (.lst acc) ∧ A i acc) ⟨r0, [], upd_same, h0⟩ (fun i H _ p => hG H p.1) (fun i x H H' hi p y => ?_) fun H p => ?_
  · obtain ⟨rH, acc, hD, ha⟩ := p
    refine hs i x H H' acc _ _ hi rH hD ha y (fun v H4 r4 d4 a4 => ⟨acc, d4, ?_, r1 _ _ r4, _, upd_same, a4⟩) (fun H3 r3 d3 a3 => ⟨r3, acc, d3, a3⟩)
    have := hA i acc ha
    omega
  · obtain ⟨rH, acc, hD, ha⟩ := p
    exact hd H acc rH hD ha
/-- no test -/
theorem yes_te {te : TE} {σ : L2.St} {H : Hp} {C : VK} {N : Hp → Prop} (h : te σ H C) : tYes σ H fun b H3 => if b = true then te σ H3 C else N H3 := by
  show (if true = true then te σ H C else N H)
  rw [if_pos rfl]
  exact h
section
variable {X : Cx}
theorem call_lenT : CallR X (.builtin "len") (fun xs H Q => ∃ l, xs = [tx l] ∧ l.length ≤ sizeLine ∧ Q (.int (l.length : Int)) H) := by
  intro pins s σ H xs us Q I r h
  obtain ⟨l, rfl, hz, q⟩ := h
  exact call_len_str pins s σ H _ us Q I r ⟨_, rfl, by rw [tS_len]; exact hz, by rw [tS_len]; exact q⟩
theorem ix_tx : IxR X (fun x y H Q => ∃ (l : List Nat) (i c : Nat), x = tx l ∧ y = .int (i : Int) ∧ l.length ≤ sizeLine ∧ l[i]? = some c ∧ Q (tx [c]) H) := by
  intro value slice pins s σ H x y v u Q I rx ry h hs
  obtain ⟨l, i, c, rfl, rfl, hz, he, q⟩ := h
  exact ix_str value slice pins s σ H _ _ v u Q I rx ry ⟨_, _, c, rfl, rfl, by rw [tS_len]; exact hz, atI_nat he, q⟩ hs
end
theorem walk_tx {l : List Nat} : Walk (Its (tS l)) l.length (fun _ => True) (fun i H v H' => H' = H ∧ ∃ c, l[i]? = some c ∧ v = tx [c]) := by
  have e : (tS l).cps.size = l.length := tS_len l
  refine ⟨fun i _ hi _ => ?_, fun _ _ => ?_, fun i H v H' _ _ y => ?_⟩
  · show i < (tS l).cps.size
    rw [e]; exact hi
  · show (tS l).cps.size ≤ l.length
    rw [e]; exact Nat.le_refl _
  · obtain ⟨h1, c, h2, h3⟩ := y
    exact ⟨h1, c, by simpa [tS] using h2, h3⟩
/-- a def whose code object is told -/
theorem okC {P : Program} {w : World} {K : PySem.W.Frag} {mg : Str → Option Value} {base : Heap} {x qual : Str} {st : Stmt} {f : Addr} {fd : FuncData} {N ps : List Str} {k : Nat} {sp : Sp} (F : Fun K x qual st f fd) (S : FnScope N ps (defScope st)) (len : ∀ vs H Q E, sp vs H Q E → vs.length = ps.length)
    (hbody : ∀ (A : Around) (outer : List Env) (s : Shared) (H : Hp) (vs : List V) (Q : VK) (E : XK), Room k (A.deeper (envOfC qual (defScope st) s.heap.objs.size f fd.code)) → A.guards = some [] → sp vs H Q E →
      ∃ t, PSs (cxOf CX0 P w K mg base N qual (defScope st) f fd.code A outer s H E).nox (defBody st) t ∧ t { nx := fun _ H' => Q .non H', rt := Q } (L2.start N vs) H) : FnOkG P w K mg base CX0 (k + 1) f fd ps sp := by
  obtain ⟨oc, od, kV, doc, pm, an, cdv, ct, osl, rfl, lk, hcd⟩ := F.ex
  refine fn_ofG lk hcd S len fun A outer s H vs Q E hr hg hsp => ?_
  obtain ⟨t, h, q⟩ := hbody A outer s H vs Q E hr hg hsp
  exact ⟨t, h.nox, q⟩
end L3
namespace L3
open PySem PySem.Spec PyProof.Rows L2
/-- what repr asks of data -/
structure Shw (d : PyData) : Prop where
  s : d.showable = true
  z : d.shown.length ≤ sizeLine
  p : d.depth ≤ 50
def dTx (ls : List (List Nat)) : List PyData := ls.map fun l => PyData.str (tS l)
theorem dp_txs {K : PySem.W.Frag} {H : Hp} : ∀ ls : List (List Nat), DpAll K H (ls.map tx) (dTx ls)
  | [] => .nil
  | l :: ls => .cons (.str _) (dp_txs ls)
def k1 {α : Type} : List α → List α → List α
  | [], [w] => [w]
  | _, _ => []
def k2 {α : Type} : List α → List α → List α
  | [], [w, v] => [v, w]
  | _, _ => []
theorem k1_rel : ∀ {vs : List V} {us : List Value} {zs : List V} {ws : List Value}, Vals vs us → Vals zs ws → Vals (k1 vs zs) (k1 us ws)
  | _, _, _, _, .nil, .nil => .nil
  | _, _, _, _, .nil, .cons r .nil => .cons r .nil
  | _, _, _, _, .nil, .cons _ (.cons _ _) => .nil
  | _, _, _, _, .cons _ _, .nil => .nil
  | _, _, _, _, .cons _ _, .cons _ _ => .nil
/-- f(n = v) -/
theorem kb1 {K : PySem.W.Frag} {x n : Str} {st : Stmt} {f : Addr} {fd : FuncData} (F : Fun K x x st f fd)
    (h : ∀ (kV doc pm : Value) (an : Option Addr) (cdv ct w : Value), bindArgs (PySem.W.fnOf x x (defArgs st) (defBody st) (defScope st) .none kV doc pm an cdv ct) ⟨[], [(n, w)]⟩ = pure [(n, w)]) : KBinds K fd [n] [n] k1 k1 := by
  refine ⟨fun s us ws X hl => ?_, k1_rel⟩
  obtain ⟨oc, od, kV, doc, pm, an, cdv, ct, osl, rfl, lk, hcd⟩ := F.ex
  match us, ws, hl with
  | [], [w], _ => exact .of_eq (h kV doc pm an cdv ct w)
end L3
namespace L3
open PySem PySem.Spec PyProof.Rows L2
end L3
namespace L3
open PySem PySem.Spec PyProof.Rows L2
end L3
namespace L3
open PySem PySem.Spec PyProof.Rows L2
theorem sq_put {K : PySem.W.Frag} {a D : Addr} {xs : List V} {H : Hp} {o : HO} (h : SqL K H a xs) (n : a ≠ D) : SqL K (upd H D o) a xs := by
  rcases h with (h | ⟨o', h⟩) | h
  · exact .inl (.inl (by rw [upd_ne n]; exact h))
  · exact .inl (.inr ⟨o', by rw [upd_ne n]; exact h⟩)
  · exact .inr h
theorem sq_new {K : PySem.W.Frag} {a D : Addr} {xs : List V} {H : Hp} {o : HO} (h : SqL K H a xs) (n : H D = none) : SqL K (upd H D o) a xs := by
  rcases h with (h | ⟨o', h⟩) | h
  · exact .inl (.inl (same_upd n _ _ h))
  · exact .inl (.inr ⟨o', same_upd n _ _ h⟩)
  · exact .inr h
theorem sq_same {K : PySem.W.Frag} {a : Addr} {xs : List V} {H H' : Hp} (h : SqL K H a xs) (s : Same H H') : SqL K H' a xs := by
  rcases h with (h | ⟨o', h⟩) | h
  · exact .inl (.inl (s _ _ h))
  · exact .inl (.inr ⟨o', s _ _ h⟩)
  · exact .inr h
/-- what a statement's ends have in common -/
theorem join {t : TS} {D : Ends} {σ : L2.St} {H : Hp} (R : L2.St → Hp → Prop) (h : ∀ N : L2.St → Hp → Prop, (∀ σ' H', R σ' H' → N σ' H') → t { D with nx := N } σ H) (k : ∀ σ' H', R σ' H' → D.nx σ' H') : t D σ H := h D.nx k
theorem next_to {D : Ends} {σ : L2.St} {H : Hp} (h : D.nx σ H) : tNext D σ H := h
theorem seq_to {t u : TS} {D : Ends} {σ : L2.St} {H : Hp} (h : t { D with nx := u D } σ H) : tSeq t u D σ H := h
theorem cut1 (xs : List V) : cutV xs (some 1) none = xs.drop 1 := by
  unfold cutV
  have e1 : HT.sIx xs.length 0 (some 1) = min 1 xs.length := HT.sIx_nat xs.length 0 1
  rw [e1, HT.sIx_none]
  by_cases h : 1 ≤ xs.length
  · rw [Nat.min_eq_left h, List.take_of_length_le (by rw [List.length_drop]; exact Nat.le_refl _)]
  · rw [Nat.min_eq_right (by omega), List.drop_of_length_le (Nat.le_refl _), List.drop_of_length_le (by omega)]
    simp
end L3
namespace L3
open PySem PySem.Spec PyProof.Rows L2
/-- a comprehension: R of the heap, A of the list so far; R asked of heaps that hold the list -/
theorem lc_gen2 {J : It} {n : Nat} {G : Hp → Prop} {Y : Nat → Hp → V → Hp → Prop} (w : Walk J n G Y) {g : TG} {tt : TT} {te : TE} {vs : List Nat} {σ : L2.St} {H1 : Hp} {D : Addr} {Qd : Hp → Prop} (R : Hp → Prop) (A : Nat → List V → Prop) (hz : n ≤ sizeLine) (hA : ∀ i acc, A i acc → acc.length ≤ i)
    (h0 : A 0 []) (r0 : R (upd H1 D (.lst []))) (r1 : ∀ H acc acc', H D = some (.lst acc) → R H → R (upd H D (.lst acc'))) (hG : ∀ H, R H → G H)
    (hs : ∀ i x H H' acc (C : VK) (N : Hp → Prop), i < n → R H → H D = some (.lst acc) → A i acc → Y i H x H' → (∀ v H4, R H4 → H4 D = some (.lst acc) → A (i + 1) (acc ++ [v]) → C v H4) → (∀ H3, R H3 → H3 D = some (.lst acc) → A (i + 1) acc → N H3) →
      g x (wipe σ vs) H' fun σ2 H2 => wipe σ2 vs = wipe σ vs ∧ tt σ2 H2 fun b H3 => if b = true then te σ2 H3 C else N H3)
    (hd : ∀ H xs, R H → H D = some (.lst xs) → A n xs → Qd H) :
    ∃ W : Nat → Nat → Hp → Prop, (∃ m, W 0 m (upd H1 D (.lst []))) ∧ ∀ i m H, W i m H →
      (J.stop i H ∧ Qd H) ∨ (J.go i H ∧ ∃ Nx : Hp → Prop, (∀ H', Nx H' → ∃ m', m' < m ∧ W (i + 1) m' H') ∧ ∀ x H', J.yld i H x H' → g x (wipe σ vs) H' fun σ2 H2 => wipe σ2 vs = wipe σ vs ∧ tt σ2 H2 fun b H3 =>
        if b = true then te σ2 H3 fun y H4 => ∃ acc, H4 D = some (.lst acc) ∧ acc.length < sizeLine ∧ Nx (upd H4 D (.lst (acc ++ [y]))) else Nx H3) := by
  refine lc_it w (fun i H => R H ∧ ∃ acc, H D = some (.lst acc) ∧ A i acc) ⟨r0, [], upd_same, h0⟩ (fun i H _ p => hG H p.1) (fun i x H H' hi p y => ?_) fun H p => ?_
  · obtain ⟨rH, acc, hD, ha⟩ := p
    refine hs i x H H' acc _ _ hi rH hD ha y (fun v H4 r4 d4 a4 => ⟨acc, d4, ?_, r1 _ _ _ d4 r4, _, upd_same, a4⟩) (fun H3 r3 d3 a3 => ⟨r3, acc, d3, a3⟩)
    have := hA i acc ha
    omega
  · obtain ⟨rH, acc, hD, ha⟩ := p
    exact hd H acc rH hD ha
end L3
namespace L3
open PySem PySem.Spec PyProof.Rows L2
/-- an element that is a text, with the hash that the world gives it -/
def GoodT (w : World) (e : Int × Value) : Prop := ∃ l tk, e.2 = Value.str (tS l) tk ∧ e.1 = hashStr w (tS l)
def txtOf (e : Int × Value) : List Nat := match e.2 with | .str x _ => x.cps.toList | _ => []
theorem txt_tS (l : List Nat) (h : Int) (tk : Tok) : txtOf (h, Value.str (tS l) tk) = l := by simp [txtOf, tS]
theorem tS_txt (x : Str) : tS x.cps.toList = x := by cases x; simp [tS]
/-- the object at a is a set of the texts L -/
def SetT (w : World) (h : Heap) (a : Addr) (L : List (List Nat)) : Prop :=
  ∃ o es ep t, h.get? a = some o ∧ o.ExactSet ∧ o.data = .set es ep t ∧ (∀ e ∈ es.toList, GoodT w e) ∧ (es.toList.map txtOf).Perm L ∧ L.Nodup ∧
    es.size < scanBound ∧ t.fits es.size = true ∧ Ris t.place.toList ∧ (w.params.followText "set-order" = true ∨ t.led = true)
section
variable {P : Program} {w : World} {A : Around} {E : Value → Shared → Prop} {s : Shared} {a : Addr} {L : List (List Nat)}
theorem SetT.at {h h' : Heap} (R : SetT w h a L) (k : ∀ o, h.get? a = some o → h'.get? a = some o) : SetT w h' a L := by
  obtain ⟨o, es, ep, t, ho, r⟩ := R
  exact ⟨o, es, ep, t, k o ho, r⟩
theorem goodT_elems {l : List (Int × Value)} (g : ∀ e ∈ l, GoodT w e) : ElemsOf (PySem.strKind P w) l := fun e he => by
  obtain ⟨x, tk, h1, h2⟩ := g e he
  exact ⟨⟨tS x, by rw [h1]; exact strKind_is P w _ _, h2⟩, by rw [h1]; rfl⟩
theorem goodT_is {e : Int × Value} (g : GoodT w e) (l : List Nat) : (PySem.strKind P w).is (tS l) e.2 = true ↔ txtOf e = l := by
  obtain ⟨x, tk, h1, h2⟩ := g
  have e1 : txtOf e = x := by unfold txtOf; rw [h1]
  rw [e1, h1]
  show Value.isStrOf (tS l) (Value.str (tS x) tk) = true ↔ _
  constructor
  · intro h
    obtain ⟨u, hu⟩ := Value.isStrOf_shape h
    injection hu with hx
    have := congrArg (fun z : Str => z.cps.toList) hx
    simpa [tS] using this
  · rintro rfl
    exact strKind_is P w (tS _) tk
theorem setT_tail {g : Bool → Sem Unit} (hg : ∀ (b : Bool) (s₁ : Shared) (Q' : Unit → Shared → Prop), Q' () s₁ → wpAny (model P w) A (g b) Q' E s₁)
    {o : Obj} {es : Array (Int × Value)} {ep : Nat} {t : SetTable} (ho : s.heap.get? a = some o) (hex : o.ExactSet) (hd : o.data = .set es ep t)
    {es1 : Array (Int × Value)} {t2 : SetTable} {L' : List (List Nat)} (g1 : ∀ e ∈ es1.toList, GoodT w e) (p1 : (es1.toList.map txtOf).Perm L') (nd : L'.Nodup)
    (hb1 : es1.size < scanBound) (hf2 : t2.fits es1.size = true) (hr : Ris t2.place.toList) (hl : w.params.followText "set-order" = true ∨ t2.led = true) {wasDummy : Bool} {R : Option Bool → Shared → Prop}
    (hR : ∀ h', Heap.SameBut a s.heap h' → SetT w h' a L' → R (some true) { s with heap := h' }) :
    wpAny (model P w) A (do
        storeSet a es1 t2
        if (!wasDummy && t2.tooFull) = true then do
            g (relayAll t2 es1 (SetTable.grown es1.size)).2.2
            storeSet a (relayAll t2 es1 (SetTable.grown es1.size)).1 (relayAll t2 es1 (SetTable.grown es1.size)).2.1
            pure (some true)
          else pure (some true)) R E s := by
  refine wpAny_bind (wpAny_storeSet_of ho hd ?_ (fits_of_scanBound hb1))
  have q1 := store_at (es' := es1) (t' := t2) ho hd
  have sb := Heap.SameBut.update s.heap a (Obj.putSet es1 t2)
  split
  · have pm := relayAll_perm t2 es1 (SetTable.grown es1.size)
    have f3 := relayAll_fits t2 es1 (SetTable.grown es1.size)
    have r3 := relayAll_ris t2 es1 (SetTable.grown es1.size)
    have l3 := relayAll_led t2 es1 (SetTable.grown es1.size)
    generalize relayAll t2 es1 (SetTable.grown es1.size) = Z at pm f3 r3 l3 ⊢
    obtain ⟨es2, t3, gv⟩ := Z
    dsimp only at pm f3 r3 l3 ⊢
    have sz : es2.size = es1.size := by rw [← Array.length_toList, pm.length_eq, Array.length_toList]
    refine wpAny_bind (hg _ _ _ ?_)
    refine wpAny_bind (wpAny_storeSet_of q1 rfl ?_ (fits_of_scanBound (by rw [sz]; exact hb1)))
    refine wpAny_pure (hR _ (sb.trans (Heap.SameBut.update _ a _)) ⟨_, es2, _, t3, store_at (es' := es2) (t' := t3) q1 rfl, hex, rfl, fun e he => g1 e (pm.mem_iff.mp he), (pm.map txtOf).trans p1, nd, by rw [sz]; exact hb1, f3, r3, ?_⟩)
    rcases hl with z | z
    · exact .inl z
    · exact .inr (by rw [l3]; exact z)
  · exact wpAny_pure (hR _ sb ⟨_, es1, _, t2, q1, hex, rfl, g1, p1, nd, hb1, hf2, hr, hl⟩)
theorem setT_add {l : List Nat} {tk : Tok} {Q : Bool → Shared → Prop} (R : SetT w s.heap a L) (room : L.length + 1 < scanBound)
    (hQ : ∀ b h', Heap.SameBut a s.heap h' → SetT w h' a (if l ∈ L then L else L ++ [l]) → Q b { s with heap := h' }) :
    wpAny (model P w) A (setAddHashed a (.str (tS l) tk) ((PySem.strKind P w).hash (tS l))) Q E s := by
  obtain ⟨o, es, ep, t, ho, hex, hd, g, pL, nd, hb, hf, hr, hl⟩ := R
  have hkey : (PySem.strKind P w).is (tS l) (.str (tS l) tk) = true := strKind_is P w _ tk
  have hel : ElemsOf (PySem.strKind P w) es.toList := goodT_elems g
  have hn : es.size = L.length := by rw [← Array.length_toList, ← pL.length_eq, List.length_map]
  unfold setAddHashed setAddHashedIn
  refine wpAny_holding (wpAny_bind (wpAny_setState_of ho hd hf ?_))
  dsimp only
  rw [byScan_of (knd := PySem.strKind P w) rfl hb hel]
  simp only [↓reduceIte]
  unfold setAddByScan
  refine wpAny_bind ?_
  refine wpAny_bind (wpAny_rule ?_)
  refine wpAny_bind (wpAny_setScan_of hkey ho hd hf hel ?_)
  cases hfi : List.findIdx? (fun e => (PySem.strKind P w).is (tS l) e.2) es.toList with
  | some j =>
    dsimp only
    obtain ⟨hj, pj, _⟩ := List.findIdx?_eq_some_iff_getElem.mp hfi
    have hm : l ∈ L := pL.mem_iff.mp (List.mem_map.mpr ⟨_, List.getElem_mem hj, (goodT_is (P := P) (g _ (List.getElem_mem hj)) l).mp pj⟩)
    refine wpAny_pure (wpAny_pure ?_)
    have q := hQ false s.heap (Heap.SameBut.refl a s.heap) (by rw [if_pos hm]; exact ⟨o, es, ep, t, ho, hex, hd, g, pL, nd, hb, hf, hr, hl⟩)
    exact q
  | none =>
    dsimp only
    have hm : l ∉ L := fun z => by
      obtain ⟨e, he, q⟩ := List.mem_map.mp (pL.mem_iff.mpr z)
      have c := List.findIdx?_eq_none_iff.mp hfi e he
      rw [(goodT_is (P := P) (g e he) l).mpr q] at c
      cases c
    have hgw : ∀ (b : Bool) {s₁ : Shared} {Q' : Unit → Shared → Prop}, Q' () s₁ → wpAny (model P w) A (match b with | true => rule "set.scan.the-table-gave-way" | false => pure ()) Q' E s₁ :=
      fun b s₁ Q' q => by cases b <;> first | exact wpAny_pure q | exact wpAny_rule q
    have pm := layNew_perm t es ((PySem.strKind P w).hash (tS l)) (.str (tS l) tk)
    have hf1 := layNew_fits t es ((PySem.strKind P w).hash (tS l)) (.str (tS l) tk)
    have hr1 := layNew_ris t es ((PySem.strKind P w).hash (tS l)) (.str (tS l) tk) hr
    have hl1 := layNew_led t es ((PySem.strKind P w).hash (tS l)) (.str (tS l) tk)
    generalize layNew t es ((PySem.strKind P w).hash (tS l)) (.str (tS l) tk) = Z at pm hf1 hr1 hl1 ⊢
    obtain ⟨es1, t1, wd, gv⟩ := Z
    dsimp only at pm hf1 hr1 hl1 ⊢
    rw [Array.toList_push] at pm
    have g1 : ∀ e ∈ es1.toList, GoodT w e := fun e he => by
      rcases List.mem_append.mp (pm.mem_iff.mp he) with z | z
      · exact g e z
      · rw [List.mem_singleton.mp z]; exact ⟨l, tk, rfl, rfl⟩
    have p1 : (es1.toList.map txtOf).Perm (L ++ [l]) := by
      refine (pm.map txtOf).trans ?_
      rw [List.map_append, List.map_cons, List.map_nil, txt_tS]
      exact pL.append_right _
    have nd1 : (L ++ [l]).Nodup := by
      rw [List.nodup_append]
      refine ⟨nd, by simp, fun x hx y hy => ?_⟩
      rw [List.mem_singleton.mp hy]
      exact fun z => hm (z ▸ hx)
    have hsz : es1.size = L.length + 1 := by rw [← Array.length_toList, pm.length_eq, List.length_append, Array.length_toList, hn]; rfl
    have hb1 : es1.size < scanBound := by rw [hsz]; exact room
    have hled : w.params.followText "set-order" = true ∨ t1.led = true := by
      rcases hl with z | z
      · exact .inl z
      · exact .inr (by rw [hl1]; exact z)
    have fin : ∀ h', Heap.SameBut a s.heap h' → SetT w h' a (L ++ [l]) → Q true { s with heap := h' } := fun h' sb r => hQ true h' sb (by rw [if_neg hm]; exact r)
    refine wpAny_bind (hgw _ ?_)
    split
    · refine wpAny_bind ?_
      rw [hashByValue_scannable 8 rfl]
      refine wpAny_pure ?_
      refine setT_tail ?_ ho hex hd g1 p1 nd1 hb1 ?_ ?_ ?_ ?_
      · intro b s₁ Q' q; cases b <;> first | exact wpAny_pure q | exact wpAny_rule q
      · first | (split <;> first | exact hf1 | exact SetTable.fits_plain_off hf1) | exact hf1
      · first | (split <;> exact hr1) | exact hr1
      · first | (split <;> exact hled) | exact hled
      · intro h' sb r; dsimp only; exact wpAny_pure (fin h' sb r)
    · refine wpAny_bind (wpAny_pure ?_)
      simp only [↓reduceIte]
      refine setT_tail ?_ ho hex hd g1 p1 nd1 hb1 hf1 hr1 hled ?_
      · intro b s₁ Q' q; cases b <;> first | exact wpAny_pure q | exact wpAny_rule q
      · intro h' sb r; dsimp only; exact wpAny_pure (fin h' sb r)
end
end L3
namespace L3
open PySem PySem.Spec PyProof.Rows L2
/-- the first ones, each once -/
def ded (val : Nat → List Nat) : Nat → List (List Nat)
  | 0 => []
  | i + 1 => if val i ∈ ded val i then ded val i else ded val i ++ [val i]
theorem ded_len (val : Nat → List Nat) : ∀ i, (ded val i).length ≤ i
  | 0 => Nat.le_refl _
  | i + 1 => by
    have := ded_len val i
    unfold ded
    split
    · omega
    · rw [List.length_append]
      exact Nat.succ_le_succ this
theorem ded_mem (val : Nat → List Nat) (l : List Nat) : ∀ i, l ∈ ded val i ↔ ∃ j, j < i ∧ val j = l
  | 0 => by simp [ded]
  | i + 1 => by
    have ih := ded_mem val l i
    unfold ded
    split
    · rename_i h
      rw [ih]
      refine ⟨fun ⟨j, h1, h2⟩ => ⟨j, by omega, h2⟩, fun ⟨j, h1, h2⟩ => ?_⟩
      by_cases e : j = i
      · subst e
        rw [h2] at h
        exact ih.mp h
      · exact ⟨j, by omega, h2⟩
    · rw [List.mem_append, ih, List.mem_singleton]
      constructor
      · rintro (⟨j, h1, h2⟩ | h)
        · exact ⟨j, by omega, h2⟩
        · exact ⟨i, by omega, h.symm⟩
      · rintro ⟨j, h1, h2⟩
        by_cases e : j = i
        · exact .inr (by rw [← h2, e])
        · exact .inl ⟨j, by omega, h2⟩
section
variable {prog : Program} {w : World} {A : Around} {R : Result → Shared → Prop} {I : Addr} {fp wr : List Addr} {G : Array GenState → Array GenState → Prop} {n : Nat} {P : Nat → Value → Prop} {St : Nat → Shared → Prop}
theorem set_loopT (W : WalksS prog w A.in1 I fp wr G n P St) (S : Addr) (hSf : S ∉ fp) (val : Nat → List Nat) (hval : ∀ i v, P i v → ∃ t, v = Value.str (tS (val i)) t) (hb : n + 1 < scanBound) :
    ∀ (k i : Nat) (s : Shared), n - i = k → i ≤ n → St i s → SetT w s.heap S (ded val i) →
      (∀ s', Moved (S :: wr) G s s' → SetT w s'.heap S (ded val n) → R (.ok (.ret .none)) s') →
      codeAny (model prog w) A (.builtin "set.update.loop" ⟨[.ref S, .ref I], []⟩) R s := by
  have hSw : S ∉ wr := fun h => hSf (W.sub _ h)
  have sub : ∀ b ∈ wr, b ∈ S :: wr := fun b hb => List.mem_cons_of_mem _ hb
  intro k
  induction k with
  | zero =>
    intro i s hk hi hst hS hR
    obtain rfl : i = n := by omega
    refine codeAny_builtin PyProof.Rows.F.entry_set_update_loop ?_
    rw [Around.under_plainId PyProof.Rows.F.plain_set_update_loop _]
    show wpAny _ A.in1 (pyNext (.ref I) >>= _) _ _ s
    refine wpAny_bind (W.done s _ _ hst fun s' hm => ?_)
    show wpAny _ A.in1 (ret Value.none) _ _ s'
    exact wpAny_pure (hR s' (hm.mono sub) (hS.at fun o ho => hm.heap S _ hSw ho))
  | succ k ih =>
    intro i s hk hi hst hS hR
    have hlt : i < n := by omega
    refine codeAny_builtin PyProof.Rows.F.entry_set_update_loop ?_
    rw [Around.under_plainId PyProof.Rows.F.plain_set_update_loop _]
    show wpAny _ A.in1 (pyNext (.ref I) >>= _) _ _ s
    refine wpAny_bind (W.item i s _ _ hlt hst fun v s' hP hst' hm => ?_)
    obtain ⟨t, rfl⟩ := hval i v hP
    have hS' : SetT w s'.heap S (ded val i) := hS.at fun o ho => hm.heap S _ hSw ho
    show wpAny _ A.in1 (holding [Value.str (tS (val i)) t] (setAdd S (.str (tS (val i)) t)) >>= _) _ _ s'
    refine wpAny_bind (wpAny_holding ?_)
    unfold setAdd
    refine wpAny_holding ?_
    refine wpAny_bind ((PySem.strKind prog w).pyHash (k := tS (val i)) (strKind_is prog w _ t) ?_)
    have room : (ded val i).length + 1 < scanBound := by have := ded_len val i; omega
    refine setT_add (P := prog) (s := { s' with toks := s'.toks + 1 }) hS' room fun b h' sb hS2 => ?_
    refine wpAny_pure ⟨plainId_quiet PyProof.Rows.F.plain_set_update_loop _, ih (i + 1) _ (by omega) hlt (W.frame _ s' _ _ hst' (Nat.le_succ _) fun b hb o e => ?_) hS2 fun s'' hm'' hS'' => ?_⟩
    · rw [sb.2 b (fun h : b = S => hSf (by rw [← h]; exact hb))]; exact e
    · refine hR s'' (Moved.trans W.gtrans ((hm.mono sub).then_heap (Nat.le_succ _) fun b o hb e => ?_) hm'') hS''
      rw [sb.2 b (fun h : b = S => hb (by rw [h]; exact List.mem_cons_self))]; exact e
end
section
variable {P : Program} {w : World} {A : Around} {E : Value → Shared → Prop} {s : Shared}
theorem code_set_led1 (a : Value) {Q₁ : Value → Shared → Prop}
    (h : Q₁ (.ref s.heap.objs.size) { s with heap := s.heap.push { cls := .type "set", dict := none, data := .set #[] 0 (.fresh 0 0 (!w.params.followText "set-order")) } }) :
    codeAny (model P w) A (.call (.builtin "set.__new__") ⟨[.type "set", a], []⟩) (wants Q₁ E) s := by
  refine codeAny_of_tree ?_
  show wpAny _ A.in1 (do checkBuiltinCall "set.__new__" ⟨[.type "set", a], []⟩; again (.builtin "set.__new__" ⟨[.type "set", a], []⟩)) _ _ s
  refine wpAny_bind (wpAny_of_eq (PySem.F.newCall_set_1 a) (wpAny_pure ⟨plainId_quiet PySem.F.plain_set_new _, codeAny_builtin PySem.F.entry_set_new ?_⟩))
  rw [Around.under_plainId PySem.F.plain_set_new _]
  unfold Builtin.«set.__new__» Builtin.Frozenset.newClass
  have hsub := sub_set_self
  obtain ⟨hp, g, d, tk, os⟩ := s
  dsimp only
  wp_walk
  refine wpAny_askSetting (wpAny_pure ?_)
  dsimp only
  simp only [newObj]
  refine wpAny_bind (wpAny_alloc (wpAny_pure ?_))
  exact wpAny_pure h
theorem setT_fresh {h : Heap} (w : World) : SetT w (h.push { cls := .type "set", dict := none, data := .set #[] 0 (.fresh 0 0 (!w.params.followText "set-order")) }) h.objs.size [] := by
  refine ⟨_, #[], 0, _, Heap.get?_push_size _ rfl, ⟨rfl, rfl, rfl⟩, rfl, (fun e he => by simp at he), .refl _, List.nodup_nil, by decide, rfl, List.Pairwise.nil, ?_⟩
  show _ ∨ (!w.params.followText "set-order") = true
  cases w.params.followText "set-order"
  · exact .inr rfl
  · exact .inl rfl
end
end L3
namespace L3
open PySem PySem.Spec PyProof.Rows L2
theorem sub_str_set : isSubtype (.type "str") (.type "set") = pure false := by rw [isSubtype_type]; kernel_rfl
theorem sub_str_frozenset : isSubtype (.type "str") (.type "frozenset") = pure false := by rw [isSubtype_type]; kernel_rfl
section
variable {P : Program} {w : World} {A : Around} {E : Value → Shared → Prop} {s : Shared}
set_option maxHeartbeats 8000000 in
/-- set(text) -/
theorem call_set_text {x : List Nat} {tx0 : Tok} {Q : Value → Shared → Prop} (hh : A.handled = none) (hb : x.length + 1 < scanBound)
    (h : ∀ (h' : Heap) (tk : Nat), SetT w h' s.heap.objs.size (ded (fun i => [x.getD i 0]) x.length) →
      (∀ b o, b < s.heap.objs.size → s.heap.get? b = some o → h'.get? b = some o) → Q (.ref s.heap.objs.size) { s with heap := h', toks := tk }) :
    wpAny (model P w) A (call (.type "set") [.str (tS x) tx0]) Q E s := by
  obtain ⟨c, tl, hmro⟩ := PySem.F.called_set.mro
  have hmade := PySem.F.called_set.made
  have hsub := PySem.F.called_set.sub
  refine wpAny_call (codeAny_of_tree ?_)
  show wpAny _ _ (callAny (.type "set") _) _ _ _
  refine wpAny_pure ⟨Code.quiet_builtin _ (by decide +kernel), codeAny_builtin PySem.F.entry_type_call ?_⟩
  rw [Around.under_plain (weight_type_call_type "set" [.str (tS x) tx0] []) rfl]
  have h1 := PySem.F.called_set.notType
  have h2 := PySem.F.called_set.canCreate
  have hct := PySem.F.typeCall_set_1 (.str (tS x) tx0)
  repeat (any_goals (first | assumption | wp_step))
  refine codeAny_mono (code_set_led1 (.str (tS x) tx0) (E := E) (Q₁ := fun obj s₁ => obj = .ref s.heap.objs.size ∧ s₁ = { s with heap := s.heap.push { cls := .type "set", dict := none, data := .set #[] 0 (.fresh 0 0 (!w.params.followText "set-order")) } }) ⟨rfl, rfl⟩) fun r s₁ hr => ?_
  cases r with
  | error e => exact hr
  | ok fl =>
    cases fl with
    | ret obj =>
      obtain ⟨rfl, rfl⟩ := hr
      have hS : (s.heap.push { cls := .type "set", dict := none, data := .set #[] 0 (.fresh 0 0 (!w.params.followText "set-order")) }).get? s.heap.objs.size = some { cls := .type "set", dict := none, data := .set #[] 0 (.fresh 0 0 (!w.params.followText "set-order")) } := Heap.get?_push_size _ rfl
      have hT : Shared.TypeIs { s with heap := s.heap.push { cls := .type "set", dict := none, data := .set #[] 0 (.fresh 0 0 (!w.params.followText "set-order")) } } (.ref s.heap.objs.size) "set" := ⟨_, hS, rfl⟩
      have hli := PySem.F.called_set.init.lookup
      have hbi := PySem.F.called_set.init.bind (.ref s.heap.objs.size)
      repeat (any_goals (first | assumption | wp_step))
      refine codeAny_mono (codeAny_call_builtin (R := wants (fun r s₂ => r = .none ∧ ∃ h' tk, s₂ = { s with heap := h', toks := tk } ∧ SetT w h' s.heap.objs.size (ded (fun i => [x.getD i 0]) x.length) ∧
          (∀ b o, b < s.heap.objs.size → s.heap.get? b = some o → h'.get? b = some o)) E) PySem.F.called_set.init.plain PySem.F.entry_set_init (PySem.check_set_init_1 hT ?_)) fun r₂ s₂ hr₂ => ?_
      · have hsls := sub_str_set
        have hslf := sub_str_frozenset
        have hne : (Value.type "str" == Value.type "dict") = false := by decide
        unfold Builtin.«set.__init__» noKeywords Builtin.Frozenset.updateFrom
        generalize hPI : pyIter = PI
        wp_walk
        subst hPI
        refine wpAny_pyIter_str fun oi St hW hst => ?_
        refine wpAny_bind (wpAny_runValue ?_)
        have hh3 : A.in1.in1.in1.handled = none := by simp [hh]
        have hsz : (s.heap.push { cls := .type "set", dict := none, data := .set #[] 0 (.fresh 0 0 (!w.params.followText "set-order")) }).objs.size = s.heap.objs.size + 1 := Heap.size_push _ _
        have hSf : s.heap.objs.size ∉ [(s.heap.push { cls := .type "set", dict := none, data := .set #[] 0 (.fresh 0 0 (!w.params.followText "set-order")) }).objs.size] := by
          rw [hsz]
          simp
        have hn : (tS x).cps.size = x.length := tS_len x
        have hval : ∀ (i : Nat) (v : Value), SignAt (tS x) i v → ∃ t, v = Value.str (tS [x.getD i 0]) t := fun i v hv => by
          obtain ⟨c, u, hc, rfl⟩ := hv
          have hc' : x[i]? = some c := by simpa [tS] using hc
          refine ⟨u, ?_⟩
          rw [List.getD_eq_getElem?_getD, hc']
          rfl
        refine set_loopT ((hW _ hh3).toS) s.heap.objs.size hSf (fun i => [x.getD i 0]) hval (by rw [hn]; exact hb) _ 0 _ rfl (Nat.zero_le _) hst ((setT_fresh w).at fun o ho => Heap.get?_push_of_some _ ho) fun s' hm hS' => ?_
        obtain ⟨h', g', d', tk', os'⟩ := s'
        have eg : g' = s.gens := hm.gens
        have ed : d' = s.drawn := hm.drawn
        have eo : os' = s.os := hm.os
        subst eg ed eo
        rw [hn] at hS'
        show wpAny _ _ _ _ _ _
        refine wpAny_pure ?_
        show wpAny _ _ (ret Value.none) _ _ _
        refine wpAny_pure ⟨rfl, h', tk', rfl, hS', fun b o hb e => ?_⟩
        refine hm.heap b o (fun z => ?_) (Heap.get?_push_of_some _ (Heap.get?_push_of_some _ e))
        simp only [List.mem_cons, List.not_mem_nil, or_false] at z
        rcases z with z | z
        · exact absurd z (Nat.ne_of_lt hb)
        · rw [hsz] at z
          exact absurd z (Nat.ne_of_lt (Nat.lt_succ_of_lt hb))
      · cases r₂ with
        | error e => exact hr₂
        | ok fl₂ =>
          cases fl₂ with
          | ret r =>
            obtain ⟨rfl, h', tk, rfl, hS', hk'⟩ := hr₂
            repeat (any_goals (first | assumption | wp_step))
            exact h _ _ hS' hk'
          | _ => exact hr₂.elim
    | _ => exact hr.elim
end
end L3
namespace L3
open PySem PySem.Spec PyProof.Rows L2
def sVal (v : Value) : Str := match v with | .str x _ => x | _ => Str.empty
theorem strs_of : ∀ (l : List Value), (∀ v ∈ l, ∃ k tk, v = Value.str k tk) → StrsAre l (l.map sVal)
  | [], _ => .nil
  | v :: l, h => by
    obtain ⟨k, tk, rfl⟩ := h v List.mem_cons_self
    exact .cons k tk (strs_of l fun u hu => h u (List.mem_cons_of_mem _ hu))
section
variable {P : Program} {w : World} {A : Around} {E : Value → Shared → Prop} {s : Shared} {a : Addr} {L : List (List Nat)}
theorem sorted_setX {Q : Value → Shared → Prop} (R : SetT w s.heap a L) (hh : A.handled = none)
    (hQ : ∀ s' p (out : Array Value) (c : Nat) (ss : List Str), (∀ b o, s.heap.get? b = some o → s'.heap.get? b = some o) → s'.gens = s.gens → s'.os = s.os → s.heap.objs.size ≤ p →
      s'.heap.get? p = some (seqObj "list" out c) → StrsAre out.toList ss → ss.Perm (L.map tS) → sortedS ss = true → Q (.ref p) s') :
    wpAny (model P w) A (call (.builtin "sorted") [.ref a]) Q E s := by
  obtain ⟨o, es, ep, t, ho, hex, hd, g, pL, nd, hb, hf, hr, hl⟩ := R
  refine Calls.call_function_entry kind_sorted plain_sorted entry_sorted (args_sorted1 _) ?_
  unfold Builtin.«sorted»
  refine wpAny_bind (m := checkCount "sorted" 1 1 _) (wpAny_pure ?_)
  refine wpAny_bind (collect_set (A := A.in1) hh ⟨o, ho, hex.1, hd⟩ hf hb hr hl fun s1 vs k1 hz g1 o1 pm => ?_)
  have hvl : vs.length = es.size := by rw [pm.length_eq, List.length_map, Array.length_toList]
  have hS : StrsAre vs (vs.map sVal) := strs_of vs fun v hv => by
    obtain ⟨e, he, q⟩ := List.mem_map.mp (pm.mem_iff.mp hv)
    obtain ⟨x, tk, h1, _⟩ := g e he
    exact ⟨tS x, tk, by rw [← q]; exact h1⟩
  have pk : (vs.map sVal).Perm (L.map tS) := by
    refine (pm.map sVal).trans ?_
    rw [List.map_map]
    have e1 : es.toList.map (sVal ∘ fun x => x.2) = (es.toList.map txtOf).map tS := by
      rw [List.map_map]
      refine List.map_congr_left fun e he => ?_
      obtain ⟨x, tk, h1, _⟩ := g e he
      show sVal e.2 = tS (txtOf e)
      unfold txtOf
      rw [h1]
      show tS x = tS (tS x).cps.toList
      rw [tS_txt]
    rw [e1]
    exact pL.map tS
  have hL : vs.length ≤ sizeLine := by rw [hvl]; exact fits_of_scanBound hb
  refine wpAny_bind (wpAny_newList ?_ hL)
  have hoL : (s1.heap.push (seqObj "list" vs.toArray 0)).get? s1.heap.objs.size = some (seqObj "list" vs.toArray 0) := Heap.get?_push_size _ rfl
  refine wpAny_bind (wpAny_holding (wpAny_call_entry slot_list_sort ⟨_, hoL, rfl⟩ entry_list_sort (list_sort_treeKAny strKind_oneLt hoL hS.keysOf (fun v₁ v₂ rest e => keyKind_strs (by rw [← e]; exact hS)) hL fun st' hp hs => ⟨_, rfl, ?_⟩) (args_list_sort _)))
  obtain ⟨ss', a1, a2, a3⟩ := sorted_out_str hS hp hs
  obtain ⟨c, hc⟩ := sortedHeap_at (vs := vs) (out := (arrOf st').map (·.2)) hoL
  refine wpAny_pure ⟨_, rfl, hQ _ s1.heap.objs.size _ c ss' (fun b u e => ?_) g1 o1 hz hc a1 (a2.trans pk) a3⟩
  have q := k1 b u e
  have hlt := Heap.lt_size q
  show (sortedHeap (s1.heap.push (seqObj "list" vs.toArray 0)) s1.heap.objs.size vs _).get? b = some u
  rw [sortedHeap_old (Nat.ne_of_lt hlt) (by rw [size_push']; exact Nat.lt_succ_of_lt hlt)]
  exact Heap.get?_push_of_some _ q
end
end L3
namespace L3
open PySem PySem.Spec PyProof.Rows L2
/-- the set of the texts L at a -/
def TSet (w : World) (a : Addr) (L : List (List Nat)) : HO := .ext fun h => SetT w h a L
/-- the letters of a text, each once -/
def lets (l : List Nat) : List (List Nat) := ded (fun i => [l.getD i 0]) l.length
theorem lets_mem {l x : List Nat} : x ∈ lets l ↔ ∃ c, c ∈ l ∧ x = [c] := by
  unfold lets
  rw [ded_mem]
  constructor
  · rintro ⟨j, hj, rfl⟩
    refine ⟨l.getD j 0, ?_, rfl⟩
    rw [List.getD_eq_getElem?_getD, List.getElem?_eq_getElem hj]
    exact List.getElem_mem hj
  · rintro ⟨c, hc, rfl⟩
    obtain ⟨j, hj, rfl⟩ := List.getElem_of_mem hc
    exact ⟨j, hj, by rw [List.getD_eq_getElem?_getD, List.getElem?_eq_getElem hj]; rfl⟩
theorem rising_pair : ∀ (ss : List Str) (p : Str), risingS p ss = true → (p :: ss).Pairwise fun a b => ¬ b.cps.toList < a.cps.toList
  | [], p, _ => by simp
  | x :: ss, p, h => by
    have h : (!ltCps x.cps.toList p.cps.toList && risingS x ss) = true := h
    rw [Bool.and_eq_true, Bool.not_eq_true', ltCps_eq, decide_eq_false_iff_not] at h
    have ih := rising_pair ss x h.2
    refine List.pairwise_cons.mpr ⟨fun y hy => ?_, ih⟩
    rcases List.mem_cons.mp hy with rfl | hy
    · exact h.1
    · have h2 := (List.pairwise_cons.mp ih).1 y hy
      exact List.not_lt.mpr (List.le_trans (List.not_lt.mp h.1) (List.not_lt.mp h2))
theorem sorted_pair {ss : List Str} (h : sortedS ss = true) : ss.Pairwise fun a b => ¬ b.cps.toList < a.cps.toList := by
  cases ss with
  | nil => exact List.Pairwise.nil
  | cons x r => exact rising_pair r x h
theorem vals_strsT : ∀ {vs : List Value} {ss : List Str}, StrsAre vs ss → Vals ((ss.map fun z => z.cps.toList).map tx) vs
  | _, _, .nil => .nil
  | _, _, .cons y t k => .cons ⟨t, by show Value.str y t = Value.str (tS y.cps.toList) t; rw [tS_txt]⟩ (vals_strsT k)
theorem up_strict {L : List (List Nat)} (h : L.Pairwise fun a b => ¬ b < a) (d : L.Nodup) : L.Pairwise (· < ·) := by
  induction L with
  | nil => exact List.Pairwise.nil
  | cons x l ih =>
    obtain ⟨h1, h2⟩ := List.pairwise_cons.mp h
    obtain ⟨d1, d2⟩ := List.nodup_cons.mp d
    refine List.pairwise_cons.mpr ⟨fun y hy => ?_, ih h2 d2⟩
    rcases Decidable.em (x < y) with k | k
    · exact k
    · exact absurd (List.le_antisymm (List.not_lt.mp (h1 y hy)) (List.not_lt.mp k)) (fun z => d1 (z ▸ hy))
section
variable {X : Cx}
theorem tset_new {w : World} {P : Program} {H : Hp} {h : Heap} {a : Addr} {L : List (List Nat)} (R : SetT w h a L) : ObjOk P w H h a (TSet w a L) := by
  obtain ⟨o, es, ep, t, ho, r⟩ := id R
  exact ⟨R, ⟨o, ho⟩, fun h1 h2 p k => SetT.at p k⟩
/-- set(text) -/
theorem cr_setT (hc : X.calm = true) : CallR X (.type "set") (fun xs H Q => ∃ l, xs = [tx l] ∧ l.length ≤ 4000 ∧ ∀ p, H p = none → Q (.ref p) (upd H p (TSet X.w p (lets l)))) := by
  intro pins s σ H xs us Q I r h
  obtain ⟨l, rfl, hz, q⟩ := h
  obtain ⟨u, rfl, rx⟩ := vals1 r
  obtain ⟨t, rfl⟩ := rx
  refine call_set_text (I.ok.hd hc) (by unfold scanBound; omega) fun h' tk hS hk => ?_
  exact ⟨.ref _, _, I.laid (t' := tk) (fun b o e => hk b o (Heap.lt_size e) e) (Nat.le_refl _) (tset_new hS), rfl, q _ (I.hok.fresh (Nat.le_refl _))⟩
/-- sorted(set) -/
theorem cr_sortSetT (hc : X.calm = true) : CallR X (.builtin "sorted") (fun xs H Q => ∃ (a : Addr) (L : List (List Nat)), xs = [.ref a] ∧ H a = some (TSet X.w a L) ∧
    ∀ (L' : List (List Nat)) (p : Addr), L'.Perm L → L'.Pairwise (· < ·) → H p = none → Q (.ref p) (upd H p (.lst (L'.map tx)))) := by
  intro pins s σ H vs us Q I r h
  obtain ⟨a, L, rfl, ha, q⟩ := h
  have R : SetT X.w s.heap a L := (I.hok a _ ha).1
  rw [Vals.ref1 r]
  have nd : L.Nodup := by obtain ⟨_, _, _, _, _, _, _, _, _, n, _⟩ := R; exact n
  have hLs : L.length ≤ sizeLine := by
    obtain ⟨_, es, _, _, _, _, _, _, pL, _, hb, _⟩ := R
    rw [← pL.length_eq, List.length_map, Array.length_toList]
    exact fits_of_scanBound hb
  refine sorted_setX R (I.ok.hd hc) fun s' p out c ss k g o hp hg hi pm hs => ?_
  have pL' : (ss.map fun z => z.cps.toList).Perm L := by
    have := pm.map fun z : Str => z.cps.toList
    rw [List.map_map] at this
    have e : L.map ((fun z : Str => z.cps.toList) ∘ tS) = L := by
      conv => rhs; rw [← List.map_id L]
      refine List.map_congr_left fun l _ => ?_
      simp [tS]
    rwa [e] at this
  have hn : H p = none := I.hok.fresh hp
  have J : Inv X pins σ (upd H p (.lst ((ss.map fun z => z.cps.toList).map tx))) { s with heap := s'.heap, gens := s'.gens, drawn := s'.drawn, toks := s'.toks } :=
    I.call (ch := []) (Un.laid k hp hn) (I.hok.laid k hp ⟨by rw [List.length_map, pL'.length_eq]; exact hLs, out.toList, c, vals_strsT hi, hg⟩) (by rw [g]; exact I.bare) (fun _ z => nomatch z)
  have e : s' = { s with heap := s'.heap, gens := s'.gens, drawn := s'.drawn, toks := s'.toks } := by
    cases s'
    cases s
    cases o
    rfl
  rw [e]
  refine ⟨.ref p, _, J, rfl, q _ p pL' (up_strict ?_ (pL'.nodup_iff.mpr nd)) hn⟩
  rw [List.pairwise_map]
  exact sorted_pair hs
end
end L3
namespace L3
open PySem PySem.Spec PyProof.Rows L2
section
variable {X : Cx} {C f : Addr} {fd : FuncData} {k : Nat} {sp : Sp} {E : XK} {y : Str}
/-- a method run from inside a built-in -/
theorem run_own {pins : List (Addr × Obj)} {σ : L2.St} {H : Hp} {s : Shared} {ps : List Str} {us : List Value} {vs : List V} {Q : VK} {R : Value → Shared → Prop} (F : FnOkG X.prog X.w X.K X.mg X.base CX0 k f fd ps sp) (hr : Room (k + 1) X.A) (hG : X.A.guards = some []) (hb : L2.Binds X.K fd ps [])
    (I : L2.Inv X pins σ H s) (r : Vals vs us) (h : sp vs H Q E0) (hR : ∀ u s', EP X pins σ Q u s' → R u s') {E' : Value → Shared → Prop} : wpAny (model X.prog X.w) X.A.in1 (call (.ref f) us) R E' s := by
  have hl : (us ++ []).length = ps.length := by rw [List.append_nil, ← r.length]; exact F.len _ _ _ _ h
  have hb' : BindsTo s fd ⟨us, []⟩ (ps.zip us) := by
    have := hb s us I.kIn hl
    rwa [List.append_nil] at this
  refine wpAny_call (codeAny_mono (F.run X.A.in1 X.stack s H ⟨us, []⟩ us vs Q E0 hr.in1 hG I.env0.in1 hb' r h) fun r s' hq => ?_)
  cases r with
  | error e => exact (show False from hq).elim
  | ok fl =>
    cases fl with
    | ret u => exact hR u s' (I.after hq)
    | next => exact False.elim hq
    | brk => exact False.elim hq
    | cont => exact False.elim hq
/-- len(o) -/
theorem cr_lenOwn (F : FnOkG X.prog X.w X.K X.mg X.base CX0 k f fd ["self"] sp) (hr : Room (k + 1) X.A) (hG : X.A.guards = some []) (hb : L2.Binds X.K fd ["self"] []) (m : Meth X.K C "__len__" f) :
    CallR X (.builtin "len") (fun xs H Q => ∃ a dx fs, xs = [.ref a] ∧ H a = some (.ins C dx fs) ∧ sp [.ref a] H (fun v H' => ∃ n : Nat, v = .int (n : Int) ∧ n ≤ sizeLine ∧ Q (.int (n : Int)) H') E0) := by
  intro pins s σ H xs us Q I r h
  obtain ⟨a, dx, fs, rfl, ha, h⟩ := h
  rw [Vals.ref1 r]
  obtain ⟨mA, O, _⟩ := ins_get I.hok ha
  obtain ⟨od, J, _⟩ := O.look
  obtain ⟨mm, FF⟩ := I.fr
  refine PySem.W.len_K FF I.ok.mod.kin J m.at_ m.fn (run_own (vs := [.ref a]) (us := [.ref a]) F hr hG hb I (.cons rfl .nil) h fun u s' hq => ?_)
  obtain ⟨v, H', I', rv, n, rfl, hn, q⟩ := hq
  obtain ⟨t, rfl⟩ := rv
  exact ⟨⟨by omega, by rw [sizeLine_eq] at hn; omega⟩, .int (n : Int), H', I'.tok _, ⟨_, rfl⟩, q⟩
/-- repr(o) -/
theorem cr_reprOwn (F : FnOkG X.prog X.w X.K X.mg X.base CX0 k f fd ["self"] sp) (hr : Room (k + 1) X.A) (hG : X.A.guards = some []) (hb : L2.Binds X.K fd ["self"] []) (m : Meth X.K C "__repr__" f) :
    CallR X (.builtin "repr") (fun xs H Q => ∃ a dx fs, xs = [.ref a] ∧ H a = some (.ins C dx fs) ∧ sp [.ref a] H (fun v H' => ∃ z : Str, v = .str z ∧ Q (.str z) H') E0) := by
  intro pins s σ H xs us Q I r h
  obtain ⟨a, dx, fs, rfl, ha, h⟩ := h
  rw [Vals.ref1 r]
  obtain ⟨mA, O, _⟩ := ins_get I.hok ha
  obtain ⟨od, J, _⟩ := O.look
  obtain ⟨mm, FF⟩ := I.fr
  have hu := hr.units
  refine PySem.W.repr_K (by show X.A.units + 1 < cLine; omega) FF I.ok.mod.kin J m.at_ m.fn (run_own (vs := [.ref a]) (us := [.ref a]) F hr hG hb I (.cons rfl .nil) h fun u s' hq => ?_)
  obtain ⟨v, H', I', rv, z, rfl, q⟩ := hq
  obtain ⟨t, rfl⟩ := rv
  exact ⟨.str z, H', I', ⟨t, rfl⟩, q⟩
/-- x in o -/
theorem op_inOwn (F : FnOkG X.prog X.w X.K X.mg X.base CX0 k f fd ["self", y] sp) (hr : Room (k + 1) X.A) (hG : X.A.guards = some []) (hb : L2.Binds X.K fd ["self", y] []) (m : Meth X.K C "__contains__" f) :
    OpR X (compareOp .In) (fun x o H Q => ∃ a dx fs, o = .ref a ∧ H a = some (.ins C dx fs) ∧ sp [.ref a, x] H (fun v H' => ∃ b : Bool, v = .bl b ∧ Q (.bl b) H') E0) := by
  intro pins s σ H x o v u Q I rx ro h
  obtain ⟨a, dx, fs, rfl, ha, h⟩ := h
  cases ro
  obtain ⟨mA, O, _⟩ := ins_get I.hok ha
  obtain ⟨od, J, _⟩ := O.look
  obtain ⟨mm, FF⟩ := I.fr
  refine PySem.W.in_K FF I.ok.mod.kin J m.at_ m.fn ?_
  refine thn (run_fnG (vs := [.ref a, x]) (us := [.ref a, v]) (ws := [.ref a, v]) (kw := []) F (hr.mono (Nat.le_succ k)) hG pass0 I (hb s [.ref a, v] I.kIn rfl) (.cons rfl (.cons rx .nil)) h) fun u s' hq => ?_
  obtain ⟨w, H', I', rw', b, rfl, q⟩ := hq
  cases rw'
  cases b
  · exact wpAny_pure ⟨.bl false, H', I', rfl, q⟩
  · exact wpAny_pure ⟨.bl true, H', I', rfl, q⟩
end
end L3
namespace L3
open PySem PySem.Spec PyProof.Rows L2
/-- what is walked -/
inductive Src where
  | L (a : Addr) | T (a : Addr) | S (x : Str)
/-- its items -/
def Src.has (K : PySem.W.Frag) (H : Hp) : Src → List V → Prop
  | .L a, xs => SqL K H a xs
  | .T a, xs => SqT K H a xs
  | .S x, xs => xs = x.cps.toList.map fun c => V.str ⟨#[c]⟩
def Src.val : Src → V
  | .L a => .ref a
  | .T a => .ref a
  | .S x => .str x
def Src.it : Src → Addr → Nat → Heap → Prop
  | .L a, it, i, h => h.IsListIter it a i
  | .T a, it, i, h => h.IsTupleIter it a i
  | .S x, it, i, h => ∃ t, h.IsStrIter it (strIterType x) x t i
theorem vals_back : ∀ {xs : List V} {us : List Value} {i : Nat} {u : Value}, Vals xs us → us[i]? = some u → ∃ x, xs[i]? = some x ∧ RelV x u
  | _, _, _, _, .nil, e => by simp at e
  | _, _, 0, _, .cons r _, e => by simp at e; subst e; exact ⟨_, rfl, r⟩
  | _, _, i + 1, u, .cons _ t, e => by
    obtain ⟨x, h1, h2⟩ := vals_back (i := i) (u := u) t (by simpa using e)
    exact ⟨x, by simpa using h1, h2⟩
theorem Src.obj {z : Src} {it : Addr} {i : Nat} {h : Heap} (st : z.it it i h) : ∃ o, h.get? it = some o ∧ ∀ v, o.data ≠ .cell v := by
  cases z with
  | L a => obtain ⟨o, e, _, d⟩ := st; exact ⟨o, e, fun v q => by rw [d] at q; cases q⟩
  | T a => obtain ⟨o, e, _, d⟩ := st; exact ⟨o, e, fun v q => by rw [d] at q; cases q⟩
  | S x => obtain ⟨t, o, e, _, d⟩ := st; exact ⟨o, e, fun v q => by rw [d] at q; cases q⟩
theorem Src.keep {z : Src} {it : Addr} {i : Nat} {h h' : Heap} (st : z.it it i h) (k : ∀ o, h.get? it = some o → h'.get? it = some o) : z.it it i h' := by
  cases z with
  | L a => exact Heap.IsListIter.at st k
  | T a => exact Heap.IsTupleIter.at st k
  | S x => obtain ⟨t, o, e, r⟩ := st; exact ⟨t, o, k o e, r⟩
section
variable {X : Cx} {pins : List (Addr × Obj)} {σ : L2.St} {H : Hp} {s : Shared}
theorem Src.draws {z : Src} {xs : List V} {it : Addr} {i : Nat} (hh : X.A.handled = none) (I : L2.Inv X pins σ H s) (q : z.has X.K H xs) (st : z.it it i s.heap) (hn : ∀ a, z.val = .ref a → a ≠ it) :
    ∃ (fp : List Addr) (P : Nat → Value → Prop) (St : Nat → Heap → Prop), Draws X.prog X.w X.A.in1 it (it :: fp) xs.length P St ∧ (∀ b ∈ fp, z.val = .ref b) ∧ St i s.heap ∧ (∀ j h, St j h → z.it it j h) ∧ ∀ j v, P j v → ∃ x, xs[j]? = some x ∧ RelV x v := by
  cases z with
  | L a =>
    obtain ⟨its, rv, p, _⟩ := I.list q
    have e : its.toArray.size = xs.length := by rw [List.size_toArray, rv.length]
    refine ⟨[a], fun i v => its.toArray[i]? = some v, fun i h => h.IsListIter it a i ∧ h.IsList a its.toArray, by rw [← e]; exact Draws.list (A := X.A.in1) hh it a (hn a rfl) its.toArray, fun b hb => by rw [List.mem_singleton.mp hb]; rfl, ⟨st, p.isList⟩, fun j h k => k.1, fun j v hv => vals_back rv (by simpa using hv)⟩
  | T a =>
    obtain ⟨its, rv, p, _⟩ := I.tuple q
    have e : its.toArray.size = xs.length := by rw [List.size_toArray, rv.length]
    refine ⟨[a], fun i v => its.toArray[i]? = some v, fun i h => h.IsTupleIter it a i ∧ h.IsTuple a its.toArray, by rw [← e]; exact Draws.tuple (A := X.A.in1) hh it a (hn a rfl) its.toArray, fun b hb => by rw [List.mem_singleton.mp hb]; rfl, ⟨st, p⟩, fun j h k => k.1, fun j v hv => vals_back rv (by simpa using hv)⟩
  | S x =>
    obtain ⟨t, st⟩ := st
    have q : xs = x.cps.toList.map fun c => V.str ⟨#[c]⟩ := q
    have e : x.cps.size = xs.length := by rw [q]; simp
    refine ⟨[], fun i v => ∃ c u, x.cps[i]? = some c ∧ v = .str ⟨#[c]⟩ u, fun i h => h.IsStrIter it (strIterType x) x t i, by rw [← e]; exact Draws.text (A := X.A.in1) hh it x t, fun b hb => (by cases hb), st, fun j h k => ⟨t, k⟩, fun j v hv => ?_⟩
    obtain ⟨c, u, hc, rfl⟩ := hv
    refine ⟨.str ⟨#[c]⟩, ?_, ⟨u, rfl⟩⟩
    rw [q, List.getElem?_map]
    have : x.cps.toList[j]? = some c := by simpa using hc
    rw [this]; rfl
theorem Src.inj {z : Src} {xs ys : List V} (I : L2.Inv X pins σ H s) (h : z.has X.K H xs) (h' : z.has X.K H ys) : xs = ys := by
  cases z with
  | L a => exact I.list_inj h h'
  | T a => exact I.tuple_inj h h'
  | S x => exact (show xs = _ from h).trans (show ys = _ from h').symm
theorem Src.lt {z : Src} {xs : List V} (I : L2.Inv X pins σ H s) (q : z.has X.K H xs) : ∀ a, z.val = .ref a → a < s.heap.objs.size := by
  intro a ha
  cases z with
  | L b =>
    cases ha
    obtain ⟨its, rv, p, _⟩ := I.list q
    exact p.lt
  | T b =>
    cases ha
    obtain ⟨its, rv, ⟨o, e, _⟩, _⟩ := I.tuple q
    exact Heap.lt_size e
  | S x => cases ha
/-- iter of it -/
theorem Src.begins {z : Src} {xs : List V} {u : Value} (I : L2.Inv X pins σ H s) (q : z.has X.K H xs) (r : RelV z.val u) :
    ∃ (o : Obj) (G : Heap → Prop), Begins u o G ∧ G s.heap ∧ ∀ (h : Heap) (it : Addr), h.get? it = some o → z.it it 0 h := by
  cases z with
  | L a =>
    cases r
    obtain ⟨its, rv, p, _⟩ := I.list q
    exact ⟨_, _, begins_list a its.toArray, p.isList, fun h it e => ⟨_, e, rfl, rfl⟩⟩
  | T a =>
    cases r
    obtain ⟨its, rv, p, _⟩ := I.tuple q
    exact ⟨_, _, begins_tuple a its.toArray, p, fun h it e => ⟨_, e, rfl, rfl⟩⟩
  | S x =>
    obtain ⟨t, rfl⟩ := r
    exact ⟨_, _, begins_text x t, trivial, fun h it e => ⟨t, _, e, rfl, rfl⟩⟩
end
def ItE (K : PySem.W.Frag) (y : Src) : It :=
  ⟨fun i H => ∃ (xs : List V) (a : V), y.has K H xs ∧ xs[i]? = some a,
    fun i H v H' => ∃ T a, v = .ref T ∧ H T = none ∧ H' = upd H T (.tup [.int (i : Nat), a]) ∧ ∀ xs, y.has K H xs → xs[i]? = some a,
    fun i H => ∃ xs : List V, y.has K H xs ∧ i = xs.length⟩
theorem turn_enumS {P : Program} {w : World} {K : PySem.W.Frag} {elts : List Expr} {kk : Nat} {tpos : Pos} {N : Nat} {y : Src} (ly : ∀ a, y.val = .ref a → a < N) :
    Turn P w K (.Tuple elts kk tpos) (ItE K y) [N + 1, N] (N + 1) (fun i h => (∃ old, IsEnum h (N + 1) N ((i : Nat) : Int) old) ∧ y.it N i h) where
  mem := by simp
  obj := fun i h st b hb => by
    obtain ⟨⟨old, he⟩, h1⟩ := st
    have e' : b = N + 1 ∨ b = N := by simpa using hb
    rcases e' with q | q
    · rw [q]; exact ⟨_, he, fun v q => nomatch q⟩
    · rw [q]; exact Src.obj h1
  keep := fun i h h' st k => by
    obtain ⟨⟨old, he⟩, h1⟩ := st
    exact ⟨⟨old, k _ (by simp) _ he⟩, Src.keep h1 fun o q => k N (by simp) o q⟩
  item := by
    intro X hP hw hK hc i pins s σ H E I hf st hg
    subst hP hw hK
    obtain ⟨⟨old, he⟩, h1⟩ := st
    obtain ⟨xs, a, hqx, ha⟩ := hg
    have hh := I.ok.hd hc
    obtain ⟨fp1, P1, St1, D1, f1, s1, b1, p1⟩ := Src.draws hh I hqx h1 (fun c e => Nat.ne_of_lt (ly c e))
    have hel : N + 1 < s.heap.objs.size := Heap.lt_size he
    have l1 : i < xs.length := (List.getElem?_eq_some_iff.mp ha).1
    have hef : N + 1 ∉ N :: fp1 := fun hm => by
      rcases List.mem_cons.mp hm with e | hm
      · exact Nat.succ_ne_self N e
      · exact absurd (ly _ (f1 _ hm)) (Nat.not_lt.mpr (Nat.le_succ N))
    refine wpAny_pyNext_enum_itemD D1 he s1 l1 (Nat.succ_ne_self N) hef fun u h' tk hu ho st1 hT hsz hk => ?_
    obtain ⟨a', ea, ra⟩ := p1 i u hu
    refine ⟨_, rfl, wpAny_letOwnedTupleGo_enum (s := { s with heap := h', toks := tk + 1 }) ho fun h'' he' sb => ?_⟩
    have hT2 : h''.get? s.heap.objs.size = some { cls := .type "tuple", data := .seq #[.int i tk, u] } := (sb.2 _ (Nat.ne_of_gt (Heap.lt_size he))).trans hT
    have new : ObjOk X.prog X.w (upd H s.heap.objs.size (.tup [.int (i : Nat), a'])) h'' s.heap.objs.size (.tup [.int (i : Nat), a']) :=
      ⟨by show 2 ≤ sizeLine; decide, [.int i tk, u], .cons ⟨_, rfl⟩ (.cons ra .nil), ⟨_, hT2, rfl, _, rfl⟩⟩
    have I1 : L2.Inv X pins σ (upd H s.heap.objs.size (.tup [.int (i : Nat), a'])) { s with heap := h'', toks := tk + 1 } :=
      I.turnedNew (ch := [N + 1, N]) (fun b ob hb q => (sb.2 b (fun z => hb (by simp [z]))).trans (hk b ob (fun z => hb (by simp [z])) (fun z => hb (by simp [z])) q)) hf (Nat.le_refl _) new
    refine ⟨.ref s.heap.objs.size, _, I1, rfl, ⟨_, a', rfl, I.hok.fresh (Nat.le_refl _), rfl, fun ys hy => by rw [Src.inj I hy hqx]; exact ea⟩, ⟨⟨u, ?_⟩, Src.keep (b1 _ _ st1) fun o q => (sb.2 N (Nat.ne_of_lt (Nat.lt_succ_self N))).trans q⟩, fun b hb => ?_⟩
    · have e1 : ((i + 1 : Nat) : Int) = (i : Int) + 1 := by omega
      rw [e1]; exact he'
    · have hb' : b < s.heap.objs.size := by
        have e' : b = N + 1 ∨ b = N := by simpa using hb
        rcases e' with q | q
        · rw [q]; exact hel
        · rw [q]; exact Nat.lt_trans (Nat.lt_succ_self N) hel
      rw [upd_ne (Nat.ne_of_lt hb')]
      exact (hf b hb).1
  done := by
    intro X hP hw hK hc i pins s σ H E I hf st hg
    subst hP hw hK
    obtain ⟨⟨old, he⟩, h1⟩ := st
    obtain ⟨xs, hqx, e⟩ := hg
    have hh := I.ok.hd hc
    obtain ⟨fp1, P1, St1, D1, f1, s1, b1, p1⟩ := Src.draws hh I hqx h1 (fun c e => Nat.ne_of_lt (ly c e))
    obtain ⟨f0, f1', f2, f3, f4, f5⟩ := hf N (by simp)
    exact wpAny_pyNext_enum_endD D1 he (e ▸ s1) fun h' eb => ⟨rfl, I.turned (t' := s.toks) (fun b o hb q => eb b o hb q) f0 f1' f3 f4 f5⟩
  self := fun A i s Q E st h => let ⟨⟨_, he⟩, _⟩ := st; wpAny_pyIter_enum he h
theorem meets_enum1 {v : Value} {o : Obj} {G : Heap → Prop} (B : Begins v o G) :
    Meets (Builtin.«enumerate.__new__» ⟨[.type "enumerate", v], []⟩) (fun _ R s => G s.heap ∧
      R (.ok (.ret (.ref (s.heap.push o).objs.size))) { s with heap := (s.heap.push o).push { cls := .type "enumerate", data := .fields #[.none, .bool false, .ref s.heap.objs.size, rawInt 0, .none, .none] } }) :=
  .of_wp fun prog w A R s h => by
    obtain ⟨hp, g, d, tk, os⟩ := s; obtain ⟨h1, h⟩ := h
    have hsub := sub_enumerate
    have q1 : ∀ {A' : Around} {E : Value → Shared → Prop} {Q : Value → Shared → Prop}, Q (.ref hp.objs.size) ⟨hp.push o, g, d, tk, os⟩ → wpAny (model prog w) A' (pyIter v) Q E ⟨hp, g, d, tk, os⟩ :=
      fun q => B.iter prog w _ _ ⟨hp, g, d, tk, os⟩ _ h1 q
    wp_walk using q1
    refine wpAny_stack_any fun st => wpAny_pure ?_
    split
    · rename_i c _ _ _ _ _
      cases (c == Value.type "enumerate")
      · wp_walk using q1
        exact ⟨_, rfl, h⟩
      · wp_walk using q1
        exact ⟨_, rfl, h⟩
    · wp_walk using q1
      exact ⟨_, rfl, h⟩
theorem enum_begins1 {prog : Program} {w : World} {A : Around} {E : Value → Shared → Prop} {s : Shared} {v : Value} {o : Obj} {G : Heap → Prop} {Q : Value → Shared → Prop} (B : Begins v o G) (h1 : G s.heap)
    (h : ∀ h', IsEnum h' (s.heap.objs.size + 1) s.heap.objs.size 0 .none → h'.get? s.heap.objs.size = some o → h'.objs.size = s.heap.objs.size + 2 →
      (∀ b o, s.heap.get? b = some o → h'.get? b = some o) → Q (.ref (s.heap.objs.size + 1)) { s with heap := h' }) :
    wpAny (model prog w) A (call (.type "enumerate") [v]) Q E s := by
  refine callType_new F.called_enumerate (by decide) (F.typeCall_enumerate_1 _) (F.newCall_enumerate_1 _) (fun obj => F.args_object_init_2 obj _) F.entry_enumerate_new (meets_enum1 B) ⟨h1, ?_⟩
  have hz : (s.heap.push o).objs.size = s.heap.objs.size + 1 := Heap.size_push ..
  show _ ∧ _
  rw [hz]
  have he : IsEnum ((s.heap.push o).push { cls := .type "enumerate", data := .fields #[.none, .bool false, .ref s.heap.objs.size, rawInt 0, .none, .none] }) (s.heap.objs.size + 1) s.heap.objs.size 0 .none := by
    have := Heap.get?_push_size (s.heap.push o) (o := { cls := .type "enumerate", data := .fields #[.none, .bool false, .ref s.heap.objs.size, rawInt 0, .none, .none] }) rfl
    rw [hz] at this; exact this
  exact ⟨⟨_, he, rfl⟩, h _ he (Heap.get?_push_of_some _ (Heap.get?_push_size _ B.free)) (by rw [Heap.size_push, hz]) fun b o x => Heap.get?_push_of_some _ (Heap.get?_push_of_some _ x)⟩
/-- enumerate(e) -/
def iEnumS (K : PySem.W.Frag) (ta : TA) : TI := fun σ H R => ta σ H fun vs H1 => ∃ (y : Src) (xs : List V), vs = [y.val] ∧ y.has K H1 xs ∧ R (ItE K y) H1
theorem pi_enumS {X : Cx} {e : Expr} {ta : TA} {p pos tpos : Pos} {elts : List Expr} {kk : Nat} (hg : Gl X "enumerate") (hm : X.mg "enumerate" = none) (ha : PA X [e] ta) (hs : starEach [e] X.env = [(false, eval e X.env)] := by rfl) :
    PI X (.Tuple elts kk tpos) (.Call (.Name "enumerate" p) [e] [] pos) (iEnumS X.K ta) := by
  refine ⟨fun pins s σ H R I h => ?_⟩
  refine Call_ (ld_blt I hg hm boot_enumerate (PyProof.Rows.callWith_type1 (thn (ha.run pos pins s σ H _ I h) fun us s1 ⟨vs, H1, I1, r1, q1⟩ => ?_) hs rfl))
  obtain ⟨y, xs, ex, hq, q⟩ := q1
  subst ex
  cases r1 with
  | cons r rr =>
    cases rr
    obtain ⟨o1, G1, B1, g1, k1⟩ := Src.begins I1 hq r
    refine enum_begins1 B1 g1 fun h' he c1 hsz hk => wpAny_pyIter_enum he ?_
    have I2 : L2.Inv X pins σ H1 { s1 with heap := h' } := I1.kept (t' := s1.toks) hk
    refine ⟨s1.heap.objs.size + 1, [s1.heap.objs.size + 1, s1.heap.objs.size], _, _, H1, rfl, I2, turn_enumS (Src.lt I1 hq), ⟨⟨.none, he⟩, k1 _ _ c1⟩, fun b hb => ?_, q⟩
    have e' : b = s1.heap.objs.size + 1 ∨ b = s1.heap.objs.size := by simpa using hb
    have hle : s1.heap.objs.size ≤ b := by rcases e' with q | q <;> rw [q] <;> omega
    exact I1.fpOk hle (I1.hok.fresh hle)
theorem walk_enumS {K : PySem.W.Frag} {y : Src} {xs : List V} : Walk (ItE K y) xs.length (fun H => y.has K H xs) (YPair (fun i => some (.int (i : Nat))) (fun i => xs[i]?)) := by
  refine ⟨fun i _ hi q => ⟨xs, xs[i], q, by simp [hi]⟩, fun _ q => ⟨xs, q, rfl⟩, fun i H v H' _ q y => ?_⟩
  obtain ⟨T, x, h1, h2, h3, h4⟩ := y
  exact ⟨T, .int (i : Nat), x, h1, h2, h3, rfl, h4 xs q⟩
end L3
namespace L3
open PySem PySem.Spec PyProof.Rows L2
section
variable {M : Model} {prog : Program} {w : World} {A : Around} {E : Value → Shared → Prop} {s : Shared} {K : PySem.W.Frag} {x C f : Addr} {ox : Obj} {od : Option Obj} {b tb : Value}
theorem ne_entry {Q : PySem.Fin → Shared → Prop} (hu : A.units < cLine) (X : K.In s.heap) (I : PySem.W.InstAt s.heap x ox C od) (hs : PySem.W.findIn K (.ref C) "__eq__" = some (some (.ref f))) (hf : PySem.W.isFn K (.ref f) = true)
    (hcall : wpAny (model prog w) A (call (.ref f) [.ref x, b]) (fun v s' => ∃ z, v = .bool z ∧ Q (.done (.ret (.bool (!z)))) s') E s) :
    wpAny (model prog w) A (Builtin.«object.__ne__» ⟨[.ref x, b], []⟩) Q E s := by
  unfold Builtin.«object.__ne__»
  repeat (first
    | with_reducible refine wpAny_cRoomFor hu ?_
    | (refine wpAny_bind (m := callSpecialIfBound? (.ref x) (Str.ofString "__eq__") [b])
        (PySem.W.ifBound_K X I hs hf (wpAny_mono hcall (fun r s' hr => by
          obtain ⟨b, rfl, hq⟩ := hr
          repeat (first | exact hq | exact wpAny_pure hq | exact wpAny_truthy_bool hq | (refine wpAny_bind (m := truthy (.bool _)) (wpAny_truthy_bool ?_)) | wp_step)) fun _ _ e => e)))
    | wp_step)
theorem ifBound_ne {args : List Value} {Q : Option Value → Shared → Prop} (X : K.In s.heap) (I : PySem.W.InstAt s.heap x ox C od) (hs : PySem.W.findIn K (.ref C) "__ne__" = some (some (.builtin "object.__ne__")))
    (h : wpAny M A (call (.builtin "object.__ne__") (.ref x :: args)) (fun v => Q (some v)) E s) : wpAny M A (callSpecialIfBound? (.ref x) "__ne__" args) Q E s := by
  simp only [callSpecialIfBound?, bindSpecialIfBound?]
  refine wpAny_holding (wpAny_bind (wpAny_bind (wpAny_bind (I.type.here ((PySem.W.looks_findIn X hs).here ?_)))))
  refine wpAny_bind (wpAny_askSetting (wpAny_ite ?_))
  have fin : wpAny M A (call (.builtin "object.__ne__") ([.ref x] ++ args) >>= fun v => pure (some v)) Q E s := wpAny_bind (wpAny_mono h (fun v s' h' => wpAny_pure h') fun _ _ h' => h')
  split
  · exact wpAny_bind (wpAny_of_eq (F.cmp_object.ne.bind _) (wpAny_pure (by exact fin)))
  · exact wpAny_tryCatch (wpAny_bind (wpAny_of_eq (F.cmp_object.ne.bind _) (wpAny_pure (by exact fin))))
theorem rc_ne {Q : Value → Shared → Prop} (hu : A.units + 1 < cLine) (X : K.In s.heap) (I : PySem.W.InstAt s.heap x ox C od) (hb : PySem.W.Looks (model prog w) s.heap (typeOf b) tb) (hn : PySem.W.notFirst K C tb = true)
    (hm : PySem.W.mroIn K C (.type "object") = some true) (hne : PySem.W.findIn K (.ref C) "__ne__" = some (some (.builtin "object.__ne__"))) (hs : PySem.W.findIn K (.ref C) "__eq__" = some (some (.ref f))) (hf : PySem.W.isFn K (.ref f) = true)
    (h : wpAny (model prog w) A.in1 (call (.ref f) [.ref x, b]) (fun v s' => ∃ z, v = .bool z ∧ Q (.bool (!z)) s') E s) : wpAny (model prog w) A (richCompare .NotEq (.ref x) b) Q E s := by
  have one : wpAny (model prog w) A (tryCompare (.ref x) "__ne__" b) (fun r s' => ∃ v, r = some v ∧ Q v s') E s := by
    unfold tryCompare
    refine wpAny_bind (ifBound_ne X I hne (wpAny_call (codeAny_call_builtin F.cmp_object.ne.plain F.cmpEntry_ne (PySem.W.check_slot F.cmpKind_ne F.cmpSplit_ne (I.type.andThen (PySem.W.looks_mroIn X hm)) (F.cmpArgs_ne _ _)
      (ne_entry (A := A.in1) hu X I hs hf (wpAny_mono h (fun v s' hv => ?_) fun _ _ e => e))))))
    obtain ⟨z, rfl, hq⟩ := hv
    first | exact ⟨z, rfl, wpAny_pure ⟨_, rfl, hq⟩⟩ | exact ⟨z, rfl, wpAny_pure (wpAny_pure ⟨_, rfl, hq⟩)⟩ | exact ⟨z, rfl, ⟨_, rfl, hq⟩⟩
  unfold richCompare
  simp only [oneThing_ref]
  refine wpAny_holding (wpAny_bind (wpAny_cRoomFor (Nat.lt_of_succ_lt hu) ?_))
  refine wpAny_bind (I.type.here (wpAny_bind (hb.here ?_)))
  rw [cmpInfo_NotEq]
  dsimp only
  split
  · rename_i q
    have e : PySem.W.subIn K tb (.ref C) = some false := by
      rcases Bool.or_eq_true_iff.mp hn with e | e
      · rw [beq_iff_eq.mp e] at q; simp at q
      · exact beq_iff_eq.mp e
    refine wpAny_bind ((PySem.W.looks_subIn X e).here ?_)
    simp only [Bool.false_eq_true, if_false]
    refine wpAny_bind (wpAny_mono one (fun r s' z => ?_) fun _ _ e => e)
    obtain ⟨v, rfl, hq⟩ := z
    exact wpAny_pure hq
  · refine wpAny_bind (wpAny_pure ?_)
    simp only [Bool.false_eq_true, if_false]
    refine wpAny_bind (wpAny_mono one (fun r s' z => ?_) fun _ _ e => e)
    obtain ⟨v, rfl, hq⟩ := z
    exact wpAny_pure hq
end
section
variable {X : Cx} {C f : Addr} {fd : FuncData} {k : Nat} {sp : Sp} {y : Str}
theorem looks_of {pins : List (Addr × Obj)} {σ : L2.St} {H : Hp} {s : Shared} {x : V} {u t : Value} (I : L2.Inv X pins σ H s) (rx : RelV x u) (ty : TyX X.K H x t) : PySem.W.Looks (model X.prog X.w) s.heap (typeOf u) t := by
  obtain ⟨P, Z, p, _⟩ := kit_of I rx ty
  exact Z.ty _ _ I.kIn p
/-- o == x -/
theorem op_eqOwn (F : FnOkG X.prog X.w X.K X.mg X.base CX0 k f fd ["self", y] sp) (hr : Room k X.A) (hG : X.A.guards = some []) (hb : L2.Binds X.K fd ["self", y] []) (m : Meth X.K C "__eq__" f) :
    OpR X (compareOp .Eq) (fun o x H Q => ∃ a dx fs t, o = .ref a ∧ H a = some (.ins C dx fs) ∧ TyX X.K H x t ∧ PySem.W.notFirst X.K C t = true ∧ sp [.ref a, x] H (fun v H' => ∃ b : Bool, v = .bl b ∧ Q (.bl b) H') E0) := by
  intro pins s σ H o x v u Q I ro rx h
  obtain ⟨a, dx, fs, t, rfl, ha, ty, hn, h⟩ := h
  cases ro
  obtain ⟨mA, O, _⟩ := ins_get I.hok ha
  obtain ⟨od, J, _⟩ := O.look
  obtain ⟨mm, FF⟩ := I.fr
  show wpAny (model X.prog X.w) X.A (richCompare .Eq (.ref a) u) _ _ s
  refine PySem.W.cmp_K (op := .Eq) hr.units0 FF I.ok.mod.kin J (looks_of I rx ty) hn m.at_ m.fn ?_
  refine thn (run_fnG (vs := [.ref a, x]) (us := [.ref a, u]) (ws := [.ref a, u]) (kw := []) F hr hG pass0 I (hb s [.ref a, u] I.kIn rfl) (.cons rfl (.cons rx .nil)) h) fun w s' hq => ?_
  obtain ⟨v, H', I', rv, b, rfl, q⟩ := hq
  cases rv
  exact (show EP X pins σ Q (.bool b) s' from ⟨.bl b, H', I', rfl, q⟩)
/-- o != x -/
theorem op_neOwn (F : FnOkG X.prog X.w X.K X.mg X.base CX0 k f fd ["self", y] sp) (hr : Room (k + 1) X.A) (hG : X.A.guards = some []) (hb : L2.Binds X.K fd ["self", y] []) (m : Meth X.K C "__eq__" f)
    (hm : PySem.W.mroIn X.K C (.type "object") = some true) (hne : PySem.W.findIn X.K (.ref C) "__ne__" = some (some (.builtin "object.__ne__"))) :
    OpR X (compareOp .NotEq) (fun o x H Q => ∃ a dx fs t, o = .ref a ∧ H a = some (.ins C dx fs) ∧ TyX X.K H x t ∧ PySem.W.notFirst X.K C t = true ∧ sp [.ref a, x] H (fun v H' => ∃ b : Bool, v = .bl b ∧ Q (.bl (!b)) H') E0) := by
  intro pins s σ H o x v u Q I ro rx h
  obtain ⟨a, dx, fs, t, rfl, ha, ty, hn, h⟩ := h
  cases ro
  obtain ⟨mA, O, _⟩ := ins_get I.hok ha
  obtain ⟨od, J, _⟩ := O.look
  show wpAny (model X.prog X.w) X.A (richCompare .NotEq (.ref a) u) _ _ s
  have hu := hr.units
  refine rc_ne (by omega) I.kIn J (looks_of I rx ty) hn hm hne m.at_ m.fn ?_
  refine run_own (vs := [.ref a, x]) (us := [.ref a, u]) F hr hG hb I (.cons rfl (.cons rx .nil)) h fun w s' hq => ?_
  obtain ⟨v, H', I', rv, b, rfl, q⟩ := hq
  cases rv
  exact ⟨b, rfl, .bl (!b), H', I', rfl, q⟩
end
end L3
namespace L3
open PySem PySem.Spec PyProof.Rows L2
/-- numbers as values -/
def nV (l : List Nat) : List V := l.map fun (n : Nat) => V.int (n : Int)
theorem nV_len (l : List Nat) : (nV l).length = l.length := by unfold nV; rw [List.length_map]
mutual
theorem Dp.same {K : PySem.W.Frag} {H H' : Hp} (s : Same H H') : ∀ {v : V} {d : PyData}, Dp K H v d → Dp K H' v d
  | _, _, .non => .non
  | _, _, .bl b => .bl b
  | _, _, .int i => .int i
  | _, _, .str x => .str x
  | _, _, .lst h a => .lst (sq_same h s) (DpAll.same s a)
  | _, _, .tup h a => .tup (h.elim (fun h => .inl (h.elim (fun h => .inl (s _ _ h)) fun ⟨o, h⟩ => .inr ⟨o, s _ _ h⟩)) fun h => .inr h) (DpAll.same s a)
theorem DpAll.same {K : PySem.W.Frag} {H H' : Hp} (s : Same H H') : ∀ {vs : List V} {ds : List PyData}, DpAll K H vs ds → DpAll K H' vs ds
  | _, _, .nil => .nil
  | _, _, .cons a b => .cons (Dp.same s a) (DpAll.same s b)
end
theorem sqT_same {K : PySem.W.Frag} {a : Addr} {xs : List V} {H H' : Hp} (h : SqT K H a xs) (s : Same H H') : SqT K H' a xs :=
  h.elim (fun h => .inl (h.elim (fun h => .inl (s _ _ h)) fun ⟨o, h⟩ => .inr ⟨o, s _ _ h⟩)) fun h => .inr h
section
variable {K : PySem.W.Frag} {H : Hp}
theorem dp_tuple {v : V} {ds : List PyData} (h : Dp K H v (.tuple ds)) : ∃ a xs, v = .ref a ∧ SqT K H a xs ∧ DpAll K H xs ds := by
  cases h with
  | tup h a => exact ⟨_, _, rfl, h, a⟩
theorem dp_str {v : V} {x : Str} (h : Dp K H v (.str x)) : v = .str x := by cases h; rfl
theorem dpAll_len : ∀ {xs : List V} {ds : List PyData}, DpAll K H xs ds → xs.length = ds.length
  | _, _, .nil => rfl
  | _, _, .cons _ t => by rw [List.length_cons, List.length_cons, dpAll_len t]
def dN (l : List Nat) : List PyData := l.map fun (n : Nat) => PyData.int (n : Int)
theorem dpAll_nV : ∀ l : List Nat, DpAll K H (nV l) (dN l)
  | [] => .nil
  | n :: l => .cons (.int _) (dpAll_nV l)
end
/-- a list or a tuple with these items -/
def Sq (K : PySem.W.Frag) (H : Hp) (v : V) (xs : List V) : Prop := ∃ a, v = .ref a ∧ (SqL K H a xs ∨ SqT K H a xs)
theorem Sq.same {K : PySem.W.Frag} {H H' : Hp} {v : V} {xs : List V} (h : Sq K H v xs) (s : Same H H') : Sq K H' v xs := by
  obtain ⟨a, e, h⟩ := h
  exact ⟨a, e, h.elim (fun h => .inl (sq_same h s)) fun h => .inr (sqT_same h s)⟩
theorem sq_list {K : PySem.W.Frag} {H : Hp} {a : Addr} {xs : List V} (h : SqL K H a xs) : Sq K H (.ref a) xs := ⟨a, rfl, .inl h⟩
theorem sq_tuple {K : PySem.W.Frag} {H : Hp} {a : Addr} {xs : List V} (h : SqT K H a xs) : Sq K H (.ref a) xs := ⟨a, rfl, .inr h⟩
/-- the iterator of a list or a tuple -/
def iSq (K : PySem.W.Frag) (tl : TE) : TI := fun σ H R => tl σ H fun x H1 => ∃ xs H0, Sq K H0 x xs ∧ Same H0 H1 ∧ ∀ J G, Walk J xs.length G (YAt xs) → (∀ H', Same H0 H' → G H') → R J H1
theorem pi_sq {X : Cx} {tg l : Expr} {tl : TE} (hl : PE X l tl) : PI X tg l (iSq X.K tl) := by
  refine ⟨fun pins s σ H R I h => ?_⟩
  refine thn (hl.run pins s σ H _ I h) fun v s1 ⟨x, H1, I1, r1, q1⟩ => ?_
  obtain ⟨xs, H0, ⟨a, e, hq⟩, sm, q⟩ := q1
  subst e
  cases r1
  have fresh : ∀ b, b ∈ [s1.heap.objs.size] → FpOk X pins H1 b := fun b hb => by
    have e : b = s1.heap.objs.size := by simpa using hb
    subst e
    exact I1.fpOk (Nat.le_refl _) (I1.hok.fresh (Nat.le_refl _))
  rcases hq with hq | hq
  · obtain ⟨its, rv, p, hz⟩ := I1.list (sq_same hq sm)
    refine wpAny_pyIter_list p.isList ?_
    exact ⟨s1.heap.objs.size, [s1.heap.objs.size], _, _, H1, rfl, I1.kept (t' := s1.toks) fun b o e => Heap.get?_push_of_some _ e, turn_list a _, ⟨_, Heap.get?_push_size _ rfl, rfl, rfl⟩, fresh, q _ _ walk_list fun H' s' => sq_same hq s'⟩
  · obtain ⟨its, rv, p, hz⟩ := I1.tuple (sqT_same hq sm)
    refine wpAny_pyIter_tuple p ?_
    exact ⟨s1.heap.objs.size, [s1.heap.objs.size], _, _, H1, rfl, I1.kept (t' := s1.toks) fun b o e => Heap.get?_push_of_some _ e, turn_tuple a _, ⟨_, Heap.get?_push_size _ rfl, rfl, rfl⟩, fresh, q _ _ walk_tup fun H' s' => sqT_same hq s'⟩
/-- as what zip or enumerate walks -/
theorem sq_src {K : PySem.W.Frag} {H : Hp} {v : V} {xs : List V} (h : Sq K H v xs) : ∃ y : Src, v = y.val ∧ ∀ H', Same H H' → y.has K H' xs := by
  obtain ⟨a, rfl, h | h⟩ := h
  · exact ⟨.L a, rfl, fun H' s => sq_same h s⟩
  · exact ⟨.T a, rfl, fun H' s => sqT_same h s⟩
structure Wt (d : PyData) (w k : Nat) : Prop where
  s : d.showable = true
  l : d.leavesShort 10 = true
  c : d.canLay0 = true
  w : d.weight ≤ w
  p : d.depth ≤ k
theorem Wt.shw {d : PyData} {w k : Nat} (h : Wt d w k) (hw : w ≤ 1048576) (hk : k ≤ 50) : Shw d :=
  ⟨h.s, PyData.shown_fits (B := 10) (by decide) (by decide) h.l (Nat.le_trans h.w (Nat.le_trans hw (by decide))), Nat.le_trans h.p hk⟩
theorem Wt.shaped {d : PyData} {w k : Nat} (h : Wt d w k) (hk : k ≤ 64) : SeqAt.shaped d = true := by
  show (d.canLay0 && decide (d.depth ≤ 64)) = true
  rw [h.c, decide_eq_true (Nat.le_trans h.p hk)]
  rfl
theorem Wt.mono {d : PyData} {w k w' k' : Nat} (h : Wt d w k) (hw : w ≤ w') (hk : k ≤ k') : Wt d w' k' := ⟨h.s, h.l, h.c, Nat.le_trans h.w hw, Nat.le_trans h.p hk⟩
theorem wt_all {w k : Nat} : ∀ {ds : List PyData}, (∀ d ∈ ds, Wt d w k) → PyData.showableAll ds = true ∧ PyData.leavesShortAll 10 ds = true ∧ PyData.canLayAll0 ds = true ∧ PyData.weightAll ds ≤ (w + 1) * ds.length ∧ PyData.depthAll ds ≤ k
  | [], _ => ⟨rfl, rfl, rfl, Nat.zero_le _, Nat.zero_le _⟩
  | d :: ds, h => by
    have h1 := h d List.mem_cons_self
    obtain ⟨a, b, c, e, f⟩ := wt_all (ds := ds) fun x hx => h x (List.mem_cons_of_mem _ hx)
    refine ⟨?_, ?_, ?_, ?_, ?_⟩
    · show (PyData.showable d && PyData.showableAll ds) = true
      rw [h1.s, a]; rfl
    · show (PyData.leavesShort 10 d && PyData.leavesShortAll 10 ds) = true
      rw [h1.l, b]; rfl
    · show (PyData.canLay0 d && PyData.canLayAll0 ds) = true
      rw [h1.c, c]; rfl
    · show PyData.weight d + 1 + PyData.weightAll ds ≤ _
      have := h1.w
      rw [List.length_cons, Nat.mul_succ]
      omega
    · show max (PyData.depth d) (PyData.depthAll ds) ≤ k
      exact Nat.max_le.mpr ⟨h1.p, f⟩
theorem Wt.list {w k n : Nat} {ds : List PyData} (h : ∀ d ∈ ds, Wt d w k) (hn : ds.length ≤ n) : Wt (.list ds) ((w + 1) * n) (k + 1) := by
  obtain ⟨a, b, c, e, f⟩ := wt_all h
  have hm : (w + 1) * ds.length ≤ (w + 1) * n := Nat.mul_le_mul_left _ hn
  exact ⟨by simpa only [PyData.showable] using a, by simpa only [PyData.leavesShort] using b, by simpa only [PyData.canLay0] using c, by simp only [PyData.weight]; omega, by simp only [PyData.depth]; omega⟩
theorem Wt.tuple {w k n : Nat} {ds : List PyData} (h : ∀ d ∈ ds, Wt d w k) (hn : ds.length ≤ n) : Wt (.tuple ds) ((w + 1) * n) (k + 1) := by
  obtain ⟨a, b, c, e, f⟩ := wt_all h
  have hm : (w + 1) * ds.length ≤ (w + 1) * n := Nat.mul_le_mul_left _ hn
  exact ⟨by simpa only [PyData.showable] using a, by simpa only [PyData.leavesShort] using b, by simpa only [PyData.canLay0] using c, by simp only [PyData.weight]; omega, by simp only [PyData.depth]; omega⟩
theorem Wt.non : Wt .none 0 0 := ⟨rfl, rfl, rfl, by simp [PyData.weight], by simp [PyData.depth]⟩
theorem Wt.bool (b : Bool) : Wt (.bool b) 0 0 := ⟨rfl, rfl, rfl, by simp [PyData.weight], by simp [PyData.depth]⟩
theorem Wt.int {n : Int} (h : n.natAbs < 1000000000) : Wt (.int n) 30 0 := by
  have hlog : n.natAbs.log2 < 30 := by
    by_cases e : n.natAbs = 0
    · rw [e]; decide
    · exact (Nat.log2_lt e).mpr (Nat.lt_trans h (by decide))
  refine ⟨?_, ?_, rfl, ?_, by simp [PyData.depth]⟩
  · simp only [PyData.showable, decide_eq_true_eq]; omega
  · simp only [PyData.leavesShort, decide_eq_true_eq]
    have e := int_text_length_le10 (a := n) (k := 9) (by decide) h
    simp only [PyData.shown]
    rw [PySem.ofString_length]
    omega
  · simp only [PyData.weight]; split <;> omega
theorem Wt.nat {n : Nat} (h : n < 1000000000) : Wt (.int (n : Int)) 30 0 := Wt.int (by omega)
theorem Wt.text {l : List Nat} {n : Nat} (h : ∀ c ∈ l, c < 1114112) (hn : l.length ≤ n) : Wt (.str (tS l)) n 0 := by
  refine ⟨rfl, ?_, ?_, by simpa [PyData.weight, tS] using hn, by simp [PyData.depth]⟩
  · simp only [PyData.leavesShort, List.all_eq_true, decide_eq_true_eq]
    intro c hc
    have := h c (by simpa [tS] using hc)
    have e : 16 ^ 8 = 4294967296 := by decide
    omega
  · show PyData.strOk (tS l) = true
    unfold PyData.strOk
    rw [Array.all_eq_true_iff_forall_mem]
    intro c hc
    exact decide_eq_true (h c (by simpa [tS] using hc))
theorem Wt.nats {l : List Nat} {n : Nat} (h : ∀ c ∈ l, c < 1000000000) (hn : l.length ≤ n) : Wt (.list (dN l)) (31 * n) 1 := by
  refine Wt.list (w := 30) (k := 0) (fun d hd => ?_) (by unfold dN; rw [List.length_map]; exact hn)
  obtain ⟨c, hc, rfl⟩ := List.mem_map.mp hd
  exact Wt.nat (h c hc)
theorem eqv_map {α : Type} [DecidableEq α] (f : α → PyData) (hf : ∀ a b, PyData.eqv (f a) (f b) = decide (a = b)) : ∀ l m : List α, PyData.eqvAll (l.map f) (m.map f) = decide (l = m)
  | [], [] => by simp [PyData.eqvAll]
  | [], b :: m => by simp [PyData.eqvAll]
  | a :: l, [] => by simp [PyData.eqvAll]
  | a :: l, b :: m => by
    show (PyData.eqv (f a) (f b) && PyData.eqvAll (l.map f) (m.map f)) = _
    rw [hf, eqv_map f hf l m]
    by_cases h1 : a = b
    · by_cases h2 : l = m
      · subst h1 h2; simp
      · simp [h2]
    · simp [h1]
theorem eqv_dN (l m : List Nat) : PyData.eqvAll (dN l) (dN m) = decide (l = m) := eqv_map _ (fun a b => by
  show ((a : Int) == (b : Int)) = _
  by_cases h : a = b
  · subst h; simp
  · rw [decide_eq_false h]; exact beq_eq_false_iff_ne.mpr (by omega)) l m
end L3
namespace L3
open PySem PySem.Spec PyProof.Rows L2
end L3
namespace L3
open PySem PySem.Spec PyProof.Rows L2
/-- without what stands at D -/
def del (H : Hp) (D : Addr) : Hp := fun b => if b = D then none else H b
theorem del_upd (H : Hp) (D : Addr) (o : HO) : del (upd H D o) D = del H D := by
  funext b; unfold del upd
  by_cases h : b = D
  · rw [if_pos h, if_pos h]
  · rw [if_neg h, if_neg h, if_neg h]
theorem del_none {H : Hp} {D : Addr} (h : H D = none) : del H D = H := by
  funext b; unfold del
  by_cases e : b = D
  · rw [if_pos e, e, h]
  · rw [if_neg e]
theorem del_ne {H : Hp} {D b : Addr} (h : b ≠ D) : del H D b = H b := by unfold del; rw [if_neg h]
theorem del_same (H : Hp) (D : Addr) : Same (del H D) H := fun b o e => by
  unfold del at e
  by_cases h : b = D
  · rw [if_pos h] at e; cases e
  · rw [if_neg h] at e; exact e
theorem del_mono {H H' : Hp} (D : Addr) (s : Same H H') : Same (del H D) (del H' D) := fun b o e => by
  unfold del at e ⊢
  by_cases h : b = D
  · rw [if_pos h] at e; cases e
  · rw [if_neg h] at e ⊢; exact s b o e
/-- data does not look at instances -/
theorem sqL_del {K : PySem.W.Frag} {H : Hp} {x C dx a : Addr} {fs : List (Str × V)} {xs : List V} (hx : H x = some (.ins C dx fs)) (h : SqL K H a xs) : SqL K (del H x) a xs := by
  rcases h with (h | ⟨o, h⟩) | h
  · exact .inl (.inl (by rw [del_ne (ne_of h hx (by intro z; cases z))]; exact h))
  · exact .inl (.inr ⟨o, by rw [del_ne (ne_of h hx (by intro z; cases z))]; exact h⟩)
  · exact .inr h
theorem sqT_del {K : PySem.W.Frag} {H : Hp} {x C dx a : Addr} {fs : List (Str × V)} {xs : List V} (hx : H x = some (.ins C dx fs)) (h : SqT K H a xs) : SqT K (del H x) a xs := by
  rcases h with (h | ⟨o, h⟩) | h
  · exact .inl (.inl (by rw [del_ne (ne_of h hx (by intro z; cases z))]; exact h))
  · exact .inl (.inr ⟨o, by rw [del_ne (ne_of h hx (by intro z; cases z))]; exact h⟩)
  · exact .inr h
mutual
theorem dp_del {K : PySem.W.Frag} {H : Hp} {x C dx : Addr} {fs : List (Str × V)} (hx : H x = some (.ins C dx fs)) : ∀ {v : V} {d : PyData}, Dp K H v d → Dp K (del H x) v d
  | _, _, .non => .non
  | _, _, .bl b => .bl b
  | _, _, .int i => .int i
  | _, _, .str x => .str x
  | _, _, .lst h a => .lst (sqL_del hx h) (dpAll_del hx a)
  | _, _, .tup h a => .tup (sqT_del hx h) (dpAll_del hx a)
theorem dpAll_del {K : PySem.W.Frag} {H : Hp} {x C dx : Addr} {fs : List (Str × V)} (hx : H x = some (.ins C dx fs)) : ∀ {vs : List V} {ds : List PyData}, DpAll K H vs ds → DpAll K (del H x) vs ds
  | _, _, .nil => .nil
  | _, _, .cons a b => .cons (dp_del hx a) (dpAll_del hx b)
end
theorem del_at (H : Hp) (D : Addr) : del H D D = none := by unfold del; rw [if_pos rfl]
/-- a comprehension: Pv of the list so far and the heap without it -/
theorem lc_dp {J : It} {n : Nat} {G : Hp → Prop} {Y : Nat → Hp → V → Hp → Prop} (w : Walk J n G Y) {g : TG} {tt : TT} {te : TE} {vs : List Nat} {σ : L2.St} {H1 : Hp} {D : Addr} {Qd : Hp → Prop} (Pv : Nat → List V → Hp → Prop) (hz : n ≤ sizeLine) (hA : ∀ i acc H, Pv i acc H → acc.length ≤ i)
    (nD : H1 D = none) (h0 : Pv 0 [] H1) (hG : ∀ i acc H, Pv i acc (del H D) → H D = some (.lst acc) → G H)
    (hs : ∀ i x H H' acc (C : VK) (N : Hp → Prop), i < n → Pv i acc (del H D) → H D = some (.lst acc) → Y i H x H' → (∀ v H4, H4 D = some (.lst acc) → Pv (i + 1) (acc ++ [v]) (del H4 D) → C v H4) → (∀ H3, H3 D = some (.lst acc) → Pv (i + 1) acc (del H3 D) → N H3) →
      g x (wipe σ vs) H' fun σ2 H2 => wipe σ2 vs = wipe σ vs ∧ tt σ2 H2 fun b H3 => if b = true then te σ2 H3 C else N H3)
    (hd : ∀ H xs, H D = some (.lst xs) → Pv n xs (del H D) → Qd H) :
    ∃ W : Nat → Nat → Hp → Prop, (∃ m, W 0 m (upd H1 D (.lst []))) ∧ ∀ i m H, W i m H →
      (J.stop i H ∧ Qd H) ∨ (J.go i H ∧ ∃ Nx : Hp → Prop, (∀ H', Nx H' → ∃ m', m' < m ∧ W (i + 1) m' H') ∧ ∀ x H', J.yld i H x H' → g x (wipe σ vs) H' fun σ2 H2 => wipe σ2 vs = wipe σ vs ∧ tt σ2 H2 fun b H3 =>
        if b = true then te σ2 H3 fun y H4 => ∃ acc, H4 D = some (.lst acc) ∧ acc.length < sizeLine ∧ Nx (upd H4 D (.lst (acc ++ [y]))) else Nx H3) := by
  refine lc_it w (fun i H => ∃ acc, H D = some (.lst acc) ∧ Pv i acc (del H D)) ⟨[], upd_same, by rw [del_upd, del_none nD]; exact h0⟩ (fun i H _ p => by obtain ⟨acc, h1, h2⟩ := p; exact hG i acc H h2 h1) (fun i x H H' hi p y => ?_) fun H p => ?_
  · obtain ⟨acc, hD, ha⟩ := p
    refine hs i x H H' acc _ _ hi ha hD y (fun v H4 d4 a4 => ⟨acc, d4, ?_, _, upd_same, by rw [del_upd]; exact a4⟩) (fun H3 d3 a3 => ⟨acc, d3, a3⟩)
    have := hA i acc _ ha
    omega
  · obtain ⟨acc, hD, ha⟩ := p
    exact hd H acc hD ha
end L3
namespace L3
open PySem PySem.Spec PyProof.Rows L2
section
variable {X : Cx} {K : PySem.W.Frag}
theorem ix_tupK (h : X.K = K) : IxR X (rIxT K) := h ▸ ix_tup
theorem call_len_seqK (h : X.K = K) : CallR X (.builtin "len") (fun xs H Q => ∃ p ys, xs = [.ref p] ∧ (SqL K H p ys ∨ SqT K H p ys) ∧ Q (.int ys.length) H) := h ▸ call_len_seq
theorem call_list_ofK (h : X.K = K) : CallR X (.type "list") (fun xs H Q => ∃ p ys, xs = [.ref p] ∧ (SqL K H p ys ∨ SqT K H p ys) ∧ ∀ l, H l = none → Q (.ref l) (upd H l (.lst ys))) := h ▸ call_list_of
theorem op_neDK (h : X.K = K) (hu : X.A.units + 64 < cLine) : OpR X (compareOp .NotEq) (rNeD K) := h ▸ op_neD hu
theorem pi_listK {tg l : Expr} {tl : TE} (h : X.K = K) (hl : PE X l tl) : PI X tg l (iList K tl) := h ▸ pi_list hl
theorem pi_tupK {tg l : Expr} {tl : TE} (h : X.K = K) (hl : PE X l tl) : PI X tg l (iTup K tl) := h ▸ pi_tup hl
variable {C f : Addr} {fd : FuncData} {k : Nat} {sp : Sp} {y : Str}
end
end L3
namespace L3
open PySem PySem.Spec PyProof.Rows L2
section
variable {X : Cx} {C f : Addr} {fd : FuncData} {k : Nat} {sp : Sp} {y : Str}
/-- the answer is an object -/
def refQ (Q : VK) : VK := fun v H => ∃ p : Addr, v = .ref p ∧ Q (.ref p) H
/-- o op o -/
theorem op_own {op : Operator} (F : FnOk X.prog X.w X.K X.mg X.base CX0 k f fd ["self", y] sp) (hr : Room k X.A) (hb : L2.Binds X.K fd ["self", y] []) (m : Meth X.K C (PySem.dunder op.info.2) f) (hc : PySem.W.selfFirst X.K C = true) :
    OpR X (binaryOp op) (fun x z H Q => ∃ a dx fs b dy gs, x = .ref a ∧ z = .ref b ∧ H a = some (.ins C dx fs) ∧ H b = some (.ins C dy gs) ∧ sp [.ref a, .ref b] H (refQ Q) E0) := by
  intro pins s σ H x z v u Q I rx rz h
  obtain ⟨a, dx, fs, b, dy, gs, rfl, rfl, ha, hb', h⟩ := h
  cases rx
  cases rz
  obtain ⟨mA, O, _⟩ := ins_get I.hok ha
  obtain ⟨od, J, _⟩ := O.look
  obtain ⟨mA', O', _⟩ := ins_get I.hok hb'
  obtain ⟨od', J', _⟩ := O'.look
  obtain ⟨mm, FF⟩ := I.fr
  refine PySem.W.binop_K FF I.ok.mod.kin J J'.type hc m.at_ m.fn ?_
  refine thn (run_fn (vs := [.ref a, .ref b]) (us := [.ref a, .ref b]) F hr hb .nil pass0 I (.cons rfl (.cons rfl .nil)) (by simpa using h)) fun r s' hq => ?_
  obtain ⟨w, H', I', rw', p, rfl, q⟩ := hq
  cases rw'
  exact ⟨.ref p, H', I', rfl, q⟩
end
end L3
namespace L3
open PySem PySem.Spec PyProof.Rows L2
/-- an error object: its class, the tuple of its args, its dict -/
abbrev erO (C t : Addr) (d : Option Addr) : Obj := { cls := .ref C, dict := d, data := .fields #[.ref t, .none, .none, .none, .bool false, .none] }
section
open Builtin Builtin.ObjectAttr
variable {prog : Program} {w : World} {A : Around} {R : Result → Shared → Prop} {hp : Heap} {g : Array GenState} {d : Drawn} {t : Nat} {os : OsState} {K : PySem.W.Frag} {name : Str} {tk : Tok} {v : Value} {x C : Addr} {fv : Array Value} {cd : ClassData}
/-- what the class's line lets: no class in it takes the store for itself -/
structure Lets0 (cd : ClassData) : Prop where
  pass : ∀ self : Value, refuseLoop self "__setattr__" cd.mro = pure ()
  obj : cd.mro.contains (.type "object") = true
  ne : cd.mro.isEmpty = false
  dct : cd.hasDict = true
/-- the first field -/
theorem er_new (X : K.In hp) (hx : hp.get? x = some { cls := .ref C, data := .fields fv }) (hcd : PySem.W.clsIn K C = some cd) (L : Lets0 cd) (ha : PySem.W.findIn K (.ref C) name = some none)
    (hq : ∀ h' tk' dx, (∀ b o, b ≠ x → hp.get? b = some o → h'.get? b = some o) → hp.objs.size ≤ dx → dx ≠ x → h'.get? x = some { cls := .ref C, dict := some dx, data := .fields fv } →
      h'.Ns1 dx (fun y => if y = name then some v else none) → R (.ok (.ret .none)) ⟨h', g, d, tk', os⟩) :
    codeAny (model prog w) A (.call (.builtin "object.__setattr__") ⟨[.ref x, .str name tk, v], []⟩) R ⟨hp, g, d, t, os⟩ := by
  have In0 : PySem.W.InstAt hp x { cls := .ref C, data := .fields fv } C none := ⟨hx, rfl, rfl, trivial⟩
  have StF := F.store_object
  have nxs : x ≠ hp.objs.size := Nat.ne_of_lt (Heap.lt_size hx)
  have isO : PySem.W.Looks (model prog w) hp (isInstance (.ref x) (.type "object")) true := In0.type.andThen (PySem.W.looks_mroIn X (by unfold PySem.W.mroIn; rw [hcd, Option.bind_some, if_neg (by rw [L.ne]; decide), L.obj]))
  refine codeAny_call_builtin StF.slot.plain StF.entry (@PySem.W.check_slot (model prog w) _ _ ⟨hp, g, d, t, os⟩ "object.__setattr__" "object" "__setattr__" (.ref x) [.str name tk, v] [] _ StF.kind StF.split isO (StF.args (.ref x) (.str name tk) v) ?_)
  have lmro : PySem.W.Looks (model prog w) hp (mroOf (.ref C)) cd.mro := (PySem.W.looks_clsIn X hcd).andThen .now
  have lst : PySem.W.Looks (model prog w) hp (storeTaker? none) none := .now
  have lcls : PySem.W.Looks (model prog w) hp (classData C) cd := PySem.W.looks_clsIn X hcd
  rw [PySem.W.osa_eq, refuse_eq]
  refine wpAny_bind (wpAny_bind (In0.type.at (wpAny_bind (lmro.at ?_))))
  rw [L.pass]
  refine wpAny_pure (wpAny_bind (In0.type.at (wpAny_bind ((PySem.W.looks_findIn X ha).at (wpAny_bind (lst.at ?_))))))
  show wpAny _ _ (storeInOwnDict (.ref x) (.ref C) (.str name tk) name v false) _ _ _
  have hdc := L.dct
  clear L
  obtain ⟨nm, bs, mro, ns, qn, hd, sn, sb, ab, col, del⟩ := cd
  dsimp only at hdc
  subst hdc
  unfold storeInOwnDict ownDictForStores
  repeat (first | with_reducible refine PySem.HandSPX.store_in_new ?_ ?_ | with_reducible refine wpAny_loadPart_at hx ?_ | with_reducible refine lcls.at ?_ | wp_step)
  · exact ⟨_, #[], _, (Heap.get?_update_ne _ _ _ _ nxs.symm).trans (Heap.get?_push_at rfl rfl), rfl, fun e he => absurd he (by simp), fun _ => rfl⟩
  · intro h' tk' hn' hs
    have hx1 : (hp.push { cls := .type "dict", data := .dict #[] }).get? x = some { cls := .ref C, data := .fields fv } := Heap.get?_push_of_some _ hx
    refine hq h' tk' hp.objs.size (fun b o hb ho => ?_) (Nat.le_refl _) nxs.symm ?_ hn'
    · exact (hs.2 b (Nat.ne_of_lt (Heap.lt_size ho))).trans ((Heap.get?_update_ne _ _ _ _ hb).trans (Heap.get?_push_of_some _ ho))
    · exact (hs.2 x nxs).trans (Heap.get?_update_self _ hx1 rfl)
end
end L3
namespace L3
open PySem PySem.Spec PyProof.Rows L2 Builtin Builtin.ObjectAttr
/-- what the written part says of an error class: its own __init__ says super().__init__('..') -/
structure ErrF (P : Program) (K : PySem.W.Frag) (mg : Str → Option Value) (C fI : Addr) (B newId initId : String) (bmB : List Value) (ps : List Str) (params : Arguments) (body : List Stmt) (scope : Scope) : Prop where
  bf : ExcBaseFacts B newId initId bmB
  obj : bmB.contains (.type "object") = true
  sf : PySem.W.KxsFacts B initId
  cls : ∃ nm q N bs bm sn sub ab col dd k0 k1 k2 k3 k5, K.lookup C = some (excClassObj nm q C N bs bm true sn sub ab col dd k0 k1 k2 k3 k5 newId) ∧ (∀ X : String, bm.contains (.type X) = bmB.contains (.type X)) ∧
    ∀ self : Value, refuseLoop self "__setattr__" (.ref C :: bm) = pure ()
  fn : ∃ qual dV kV doc pm an cda ct cc oc od osl vs file tf ccl cdd ccs cl cld csl, K.lookup fI = some ⟨oc, od, .func (PySem.W.ksFn "__init__" qual params body scope dV kV doc pm an (.ref cda) ct cc), osl⟩ ∧ PySem.W.codeIn K (.ref cda) qual = true ∧
    K.lookup cda = some ⟨ccl, cdd, .fields vs, ccs⟩ ∧ vs[2]? = some (.str file tf) ∧ ((P.main.file : Str) == file) = true ∧ K.lookup cc = some ⟨cl, cld, .cell (some (.ref C)), csl⟩ ∧
    ∀ s us, us.length = ps.length → BindsTo s (PySem.W.ksFn "__init__" qual params body scope dV kV doc pm an (.ref cda) ct cc) ⟨us, []⟩ (ps.zip us)
  sup : PySem.W.ks_superIn K C C "__init__" = some (some (.builtin initId))
  self : PySem.W.mroIn K C (.ref C) = some true
  subB : PySem.W.subIn K (.ref C) (.type B) = some true
  opq : PySem.W.nsIn K cStatics "thirdparty.any" = some none
  glb : mg "super" = none
  top : (P.main.scope.names.lookup ("super" : Str)).isSome = false
  sa : PySem.W.findIn K (.ref C) "__setattr__" = some (some (.builtin "object.__setattr__"))
  ini : PySem.W.findIn K (.ref C) "__init__" = some (some (.ref fI))
  tI : PySem.W.typeIn K (.ref fI) = some (.type "function")
  kC : PySem.W.keepIn K (.ref C) = true
  exC : PySem.W.subIn K (.ref C) (.type "BaseException") = some true
  tyC : PySem.W.typeIn K (.ref C) = some (.type "type")
/-- the scope of such an __init__ -/
structure ErrS (ps : List Str) (params : Arguments) (scope : Scope) : Prop where
  sup : scope.names.lookup ("super" : Str) = some .globalImplicit
  cls : scope.names.lookup ("__class__" : Str) = some .free
  loc : ∀ x ∈ ps, scope.names.lookup x = some .local
  fst : ∃ ar : Arg, (params.posonlyargs ++ params.args).head? = some ar ∧ ar.arg = "self"
  hd : ps.head? = some "self"
  nd : ps.Nodup
  knd : scope.kind = .function
  cell : ∀ x ∈ scope.names, x.2 ≠ .cell
  co : scope.isCoroutine = false
  gn : scope.isGenerator = false
/-- the first row: super().__init__('..') -/
abbrev supE (txt : Str) (kk : Nat) (p0 p1 p2 p3 p4 : Pos) : Expr := .Call (.Attribute (.Call (.Name "super" p0) [] [] p1) "__init__" p2) [.Constant (.str txt) kk p3] [] p4
/-- it is read as a call of a method -/
def SupOk (scope : Scope) (txt : Str) (kk : Nat) (p0 p1 p2 p3 p4 : Pos) : Prop := ∀ (qual : Str) (L f : Addr) (cd : Value) (cc : Addr), ∃ pl : Sem Bool, eval (supE txt kk p0 p1 p2 p3 p4) (PySem.W.ksEnv qual scope L f cd cc) = (do
      let ov ← attributeBase (.Call (.Name "super" p0) [] [] p1) "__init__" (PySem.W.ksEnv qual scope L f cd cc) (eval (.Call (.Name "super" p0) [] [] p1) (PySem.W.ksEnv qual scope L f cd cc))
      standAt p2.atName
      let (f', first) ← holding [ov] (getMethod ov "__init__" pl)
      callWith p4 f' first (backTo p4 (starEach [.Constant (.str txt) kk p3] (PySem.W.ksEnv qual scope L f cd cc))) [])
/-- what stands around a run -/
structure ErrW (K : PySem.W.Frag) (mg : Str → Option Value) (h : Heap) : Prop where
  kin : K.In h
  glob : h.Ns mainGlobals mg
  blt : ∃ mb, h.Ns builtinsNs mb ∧ mb "super" = some (.type "super")
section
variable {P : Program} {w : World} {A : Around} {E : Value → Shared → Prop} {K : PySem.W.Frag} {mg : Str → Option Value} {C fI : Addr} {B newId initId : String} {bmB : List Value} {ps : List Str} {params : Arguments} {body : List Stmt} {scope : Scope}
theorem ErrW.keeps {h h' : Heap} (W : ErrW K mg h) (k : ∀ b o, h.get? b = some o → h'.get? b = some o) : ErrW K mg h' := by
  obtain ⟨mb, h1, h2⟩ := W.blt
  exact ⟨W.kin.keeps k, W.glob.keeps k, mb, h1.keeps k, h2⟩
theorem ErrW.but {h h' : Heap} {e : Addr} (W : ErrW K mg h) (he : K.lookup e = none) (h1 : e ≠ mainGlobals) (h2 : e ≠ builtinsNs) (k : ∀ b o, b ≠ e → h.get? b = some o → h'.get? b = some o) : ErrW K mg h' := by
  obtain ⟨mb, z1, z2⟩ := W.blt
  refine ⟨fun b o q => k b o (fun z => by rw [z, he] at q; cases q) (W.kin b o q), W.glob.at fun o q => k _ o h1.symm q, mb, z1.at fun o q => k _ o h2.symm q, z2⟩
/-- super().__init__('..') -/
theorem sup_stmt {qual : Str} {dV kV doc pm ct oc ccl cl : Value} {an od cdd cld : Option Addr} {cda cc L e t0 : Addr} {osl ccs csl : Array (Option Value)} {vs : Array Value} {file : Str} {tf : Tok} {m : Str → Option Value} {s : Shared} {body0 : List Stmt} {p0 p1 p2 p3 p4 p5 : Pos} {kk : Nat} {txt : Str} {Q : Flow → Shared → Prop}
    (T : ErrF P K mg C fI B newId initId bmB ps params body scope) (S : ErrS ps params scope) (W : ErrW K mg s.heap) (hev : SupOk scope txt kk p0 p1 p2 p3 p4)
    (hf : K.lookup fI = some ⟨oc, od, .func (PySem.W.ksFn "__init__" qual params body scope dV kV doc pm an (.ref cda) ct cc), osl⟩) (hc : K.lookup cda = some ⟨ccl, cdd, .fields vs, ccs⟩) (hv : vs[2]? = some (.str file tf)) (hfl : ((P.main.file : Str) == file) = true)
    (hcc : K.lookup cc = some ⟨cl, cld, .cell (some (.ref C)), csl⟩) (hn : s.heap.Ns L m) (hs : m "self" = some (.ref e)) (he : s.heap.get? e = some (erO C t0 none))
    (h : ∀ h' tk t', (∀ b o, b ≠ e → s.heap.get? b = some o → h'.get? b = some o) → h'.get? e = some (erO C t' none) → Q .next { s with heap := h', toks := tk }) :
    PySem.wpAt (model P w) A (.func body0 (PySem.W.ksEnv qual scope L fI (.ref cda) cc)) (exec (.Expr (supE txt kk p0 p1 p2 p3 p4) p5) (PySem.W.ksEnv qual scope L fI (.ref cda) cc)) Q E s := by
  obtain ⟨ar, ha1, ha2⟩ := S.fst
  obtain ⟨mb, hb1, hb2⟩ := W.blt
  obtain ⟨nm, q, N, bs, bm, sn, sub, ab, col, dd, k0, k1, k2, k3, k5, hC, hT, _⟩ := T.cls
  have X := W.kin
  obtain ⟨hh, g, d, t, os⟩ := s
  have hcl : PySem.W.clsIn K C = some { name := nm, bases := bs, mro := .ref C :: bm, ns := N, qualname := q, hasDict := true, slotNames := sn, subclasses := sub, abstract := ab, collection := col, hasDel := false } := by unfold PySem.W.clsIn; rw [hC] <;> rfl
  have hself : scope.names.lookup ar.arg = some .local := by
    rw [ha2]
    exact S.loc "self" (List.mem_of_head? S.hd)
  have hCh := X _ _ hC
  obtain ⟨pl, hev'⟩ := hev qual L fI (.ref cda) cc
  have hint : interactive (PySem.W.ksEnv qual scope L fI (.ref cda) cc) = false := by
    show (scope.kind == .module && _) = false
    rw [S.knd]; rfl
  refine ks_wpAt_Expr_any (ks_wpAt_MethodCall (ks_wpAt_super_base (env := PySem.W.ksEnv qual scope L fI (.ref cda) cc) S.sup S.cls rfl rfl (X _ _ hf) rfl ha1 rfl (X _ _ hc) rfl hv hfl T.top ?_) hev') hint
  refine PySem.W.ks_loadName_global S.knd S.sup (Calls.loadGlobal_builtin (env := PySem.W.ksEnv qual scope L fI (.ref cda) cc) W.glob T.glb hb1 hb2 ⟨rfl, ?_⟩)
  refine wpAny_loadName_free S.knd S.cls rfl ⟨_, X _ _ hcc, rfl⟩ ?_
  refine wpAny_loadName_local S.knd hself hn (by rw [ha2]; exact hs) ?_
  refine ks_wpAny_isType_cls hCh rfl ⟨rfl, ?_⟩
  refine ks_wpAny_call_super hCh rfl he rfl (fun c z => by cases z) (PySem.W.looks_mroIn X T.self) (fun h1 e1 k1' => ?_)
  have X1 : K.In h1 := X.keeps k1'
  have he1 := k1' _ _ he
  have I1 : PySem.W.InstAt h1 e (erO C t0 none) C none := ⟨he1, rfl, rfl, trivial⟩
  have hsup := T.sup
  unfold PySem.W.ks_superIn at hsup
  rw [hcl] at hsup
  refine PySem.W.kxs_getMethod T.sf e1 (PySem.W.looks_opaque X1 T.opq) (l₀ := .ref C :: bm) (fun A Q E s k q => wpAny_bind ((PySem.W.looks_clsIn X1 hcl) A _ E s k (wpAny_pure q))) rfl X1 hsup (I1.type.andThen (PySem.W.looks_subIn X1 T.subB)) (PySem.W.ks_ne X1 I1 hcl) rfl ?_
  refine PySem.W.kxs_callWith (i := initId) (x := e) rfl ?_
  refine Calls.evalArgs_plain (Calls.spliced_cons (wpAny_Constant_str (k := kk) (pos := p3) (Calls.spliced_nil ?_)))
  have hw2 : (h1.push (PySem.W.kxs_mw initId e)).get? h1.objs.size = some (PySem.W.kxs_mw initId e) := Heap.get?_push_at rfl rfl
  have k2' : ∀ b o, h1.get? b = some o → (h1.push (PySem.W.kxs_mw initId e)).get? b = some o := fun b o z => Heap.get?_push_of_some _ z
  refine ⟨hw2, ?_⟩
  refine wpAny_call (codeAny_of_tree ?_)
  show wpAny _ A.in1 (callAny (.ref h1.objs.size) ⟨[.str txt _], []⟩) _ _ _
  simp only [callAny]
  refine wpAny_bind (wpAny_load hw2 ?_)
  simp only [PySem.W.kxs_mw, show (Value.type "method-wrapper" == Value.type "method" || Value.type "method-wrapper" == Value.type "builtin_function_or_method" || Value.type "method-wrapper" == Value.type "method-wrapper") = true by decide, if_true]
  refine PySem.W.KFB.if_so (by decide) ?_
  refine wpAny_bind (PySem.W.check_bound_init T.bf.toExcCallFacts (k2' _ _ (k1' _ _ hCh)) (k2' _ _ he1) rfl ?_)
  refine wpAny_bind (wpAny_pure (wpAny_pure ?_))
  refine ⟨plainId_quiet T.bf.init.plain _, codeAny_builtin T.bf.initEntry ?_⟩
  refine PySem.W.exc_init_tree (cls := .ref C) (t0 := t0) (dv := none) (c2 := .none) (c3 := .none) (b4 := .bool false) (k2' _ _ he1) (by rw [sizeLine_eq]; show 1 ≤ _; decide) (fun h3 k3' e3 _ => ?_)
  exact h h3 _ _ (fun b o hb z => k3' b o hb (k2' _ _ (k1' _ _ z))) e3
/-- self.f = x, the first one -/
theorem sto_new {qual : Str} {cda : Value} {cc L e t0 : Addr} {m : Str → Option Value} {s : Shared} {body0 : List Stmt} {p1 p2 p3 p4 : Pos} {f x : Str} {v : Value} {Q : Flow → Shared → Prop}
    (T : ErrF P K mg C fI B newId initId bmB ps params body scope) (S : ErrS ps params scope) (X : K.In s.heap) (hn : s.heap.Ns L m) (hs : m "self" = some (.ref e)) (hx : m x = some v) (hself : scope.names.lookup ("self" : Str) = some .local) (hxl : scope.names.lookup x = some .local) (hdb : (x == ("__debug__" : Str)) = false) (hfn : PySem.W.findIn K (.ref C) f = some none)
    (he : s.heap.get? e = some (erO C t0 none)) (hsw : swapsWith (.Name x p3) (some (.Attribute (.Name "self" p1) f p2)) p4.line (PySem.W.ksEnv qual scope L fI cda cc) = pure false)
    (h : ∀ h' tk dx, (∀ b o, b ≠ e → s.heap.get? b = some o → h'.get? b = some o) → s.heap.objs.size ≤ dx → dx ≠ e → h'.get? e = some (erO C t0 (some dx)) → h'.Ns1 dx (fun y => if y = f then some v else none) → Q .next { s with heap := h', toks := tk }) :
    PySem.wpAt (model P w) A (.func body0 (PySem.W.ksEnv qual scope L fI cda cc)) (exec (.Assign [.Attribute (.Name "self" p1) f p2] (.Name x p3) p4) (PySem.W.ksEnv qual scope L fI cda cc)) Q E s := by
  obtain ⟨nm, q, N, bs, bm, sn, sub, ab, col, dd, k0, k1, k2, k3, k5, hC, hT, hp⟩ := T.cls
  have hcl : PySem.W.clsIn K C = some { name := nm, bases := bs, mro := .ref C :: bm, ns := N, qualname := q, hasDict := true, slotNames := sn, subclasses := sub, abstract := ab, collection := col, hasDel := false } := by unfold PySem.W.clsIn; rw [hC] <;> rfl
  have hob : (Value.ref C :: bm).contains (.type "object") = true := by
    rw [List.contains_cons, hT, T.obj, Bool.or_true]
  refine ks_wpAt_Assign_Attr (wpAt_of_wpAny (wpAny_Name (wpAny_loadName_local S.knd hxl hn hx (wpAny_Name (wpAny_loadName_local S.knd hself hn hs ?_))) hdb)) hsw
  obtain ⟨hh, g, d, t, os⟩ := s
  refine PySem.W.set_plain X (ox := erO C t0 none) (od := none) ⟨he, rfl, rfl, trivial⟩ T.sa ?_
  exact er_new X he hcl ⟨hp, hob, rfl, rfl⟩ hfn fun h' tk' dx k dn dne hx' hn' => h h' tk' dx k dn dne hx' hn'
/-- the stores behind super().__init__('..') -/
structure Sto (scope : Scope) (x f : Str) (q1 q2 q3 q4 : Pos) : Prop where
  loc : scope.names.lookup x = some .local
  db : (x == ("__debug__" : Str)) = false
  sw : ∀ (qual : Str) (L f' : Addr) (cd : Value) (cc : Addr), swapsWith (.Name x q3) (some (.Attribute (.Name "self" q1) f q2)) q4.line (PySem.W.ksEnv qual scope L f' cd cc) = pure false
/-- what is known of e and of all else, behind -/
structure ErrEnd (C e : Addr) (m0 : Str → Option Value) (s s' : Shared) : Prop where
  keep : ∀ b o, b ≠ e → s.heap.get? b = some o → s'.heap.get? b = some o
  at_ : ∃ t dx, s'.heap.get? e = some (erO C t (some dx)) ∧ s'.heap.Ns1 dx m0 ∧ s.heap.objs.size ≤ dx ∧ dx ≠ e
  gens : s'.gens = s.gens
  os : s'.os = s.os
section
variable {R : Result → Shared → Prop} {s : Shared} {e t0 : Addr} {p0 p1 p2 p3 p4 p5 q1 q2 q3 q4 r1 r2 r3 r4 : Pos} {kk : Nat} {txt x f y f2 : Str} {v u : Value}
theorem err_init1 {body : List Stmt} (T : ErrF P K mg C fI B newId initId bmB ["self", x] params body scope) (S : ErrS ["self", x] params scope) (hev : SupOk scope txt kk p0 p1 p2 p3 p4) (D : Sto scope x f q1 q2 q3 q4) (hfn : PySem.W.findIn K (.ref C) f = some none)
    (hbody : body = [.Expr (supE txt kk p0 p1 p2 p3 p4) p5, .Assign [.Attribute (.Name "self" q1) f q2] (.Name x q3) q4]) (hroom : A.depth < recursionLimit) (W : ErrW K mg s.heap) (hlim : s.heap.NoLimit) (n0 : K.lookup e = none) (n1 : e ≠ mainGlobals) (n2 : e ≠ builtinsNs)
    (he : s.heap.get? e = some (erO C t0 none)) (h : ∀ s', ErrEnd C e (fun z => if z = f then some v else none) s s' → R (.ok (.ret .none)) s') : codeAny (model P w) A (.call (.ref fI) ⟨[.ref e, v], []⟩) R s := by
  subst hbody
  obtain ⟨qual, dV, kV, doc, pm, an, cda, ct, cc, oc, od, osl, vs, file, tf, ccl, cdd, ccs, cl, cld, csl, hf, hcd, hc, hv, hfl, hcc, hbd⟩ := T.fn
  have hb := hbd s [.ref e, v] rfl
  have hself := S.loc "self" (List.mem_of_head? S.hd)
  have hne : ("self" : Str) ≠ x := by
    have := S.nd
    rw [List.nodup_cons] at this
    exact fun z => this.1 (by rw [z]; exact List.mem_cons_self)
  refine ks_codeAny_call_defAt (fd := PySem.W.ksFn "__init__" qual params _ scope dV kV doc pm an (.ref cda) ct cc) (binds := [(("self" : Str), .ref e), (x, v)]) hroom (W.kin _ _ hf) rfl hlim (PySem.W.codeRec_of W.kin hcd) rfl hb S.cell (fun z hz => ?_) (fun h0 hns hk => ?_) S.co S.gn S.knd
  · rcases List.mem_cons.mp hz with rfl | hz
    · exact hself
    · rw [List.mem_singleton.mp hz]; exact D.loc
  have W0 := W.keeps hk
  have hL : s.heap.objs.size ≠ e := Nat.ne_of_gt (Heap.lt_size he)
  have m1 : ([(("self" : Str), Value.ref e), (x, v)].reverse.lookup ("self" : Str)) = some (.ref e) := by
    show List.lookup _ [(x, v), (("self" : Str), Value.ref e)] = _
    rw [List.lookup_cons, show (("self" : Str) == x) = false from beq_eq_false_iff_ne.mpr hne]
    simp
  have m2 : ([(("self" : Str), Value.ref e), (x, v)].reverse.lookup x) = some v := by
    show List.lookup _ [(x, v), (("self" : Str), Value.ref e)] = _
    rw [List.lookup_cons, beq_self_eq_true]
  refine ks_wpAt_execs_cons (sup_stmt (s := { s with heap := h0, toks := _ }) T S W0 hev hf hc hv hfl hcc hns m1 (hk _ _ he) fun h1 tk1 t1 k1 e1 => ?_)
  have W1 := W0.but n0 n1 n2 k1
  have hns1 := hns.at fun o z => k1 _ o hL z
  refine ks_wpAt_execs_cons (sto_new (s := { s with heap := h1, toks := tk1 }) T S W1.kin hns1 m1 m2 hself D.loc D.db hfn e1 (D.sw _ _ _ _ _) fun h2 tk2 dx k2 dn dne e2 hd => ?_)
  refine wpAt_of_wpAny (wpAny_execs_nil ?_)
  refine h _ ⟨fun b o hb z => k2 b o hb (k1 b o hb (hk b o z)), ⟨t1, dx, e2, hd, ?_, dne⟩, rfl, rfl⟩
  exact Nat.le_trans (Nat.le_of_lt hns1.lt) dn
end
end
end L3
namespace L3
open PySem PySem.Spec PyProof.Rows L2
section
variable {X : Cx} {pins : List (Addr × Obj)} {σ : L2.St} {H1 : Hp} {s1 s' : Shared} {a d : Addr} {fs : List (Str × V)} {mA : Str → Option Value}
/-- the error itself is let go, its dict is tracked -/
theorem err_inv (I1 : L2.Inv X pins σ H1 s1) (ha : s1.heap.objs.size ≤ a) (hd : s1.heap.objs.size ≤ d) (hda : d ≠ a) (k : ∀ b o, s1.heap.get? b = some o → s'.heap.get? b = some o) (hns : s'.heap.Ns1 d mA) (rel : ∀ f, RelO (fs.lookup f) (mA f)) :
    ∃ G, L2.Inv X pins σ (upd H1 d (.xd fs)) { s1 with heap := G, toks := s'.toks } ∧ (∀ b o, G.get? b = some o → s'.heap.get? b = some o) ∧ G.get? a = none ∧ (upd H1 d (.xd fs)) a = none := by
  obtain ⟨G, g1, g2⟩ := restrict s'.heap fun b => decide (b ≠ a)
  have gk : ∀ b, b ≠ a → G.get? b = s'.heap.get? b := fun b hb => g1 b (decide_eq_true hb)
  have ge : G.get? a = none := g2 a (by simp)
  have nha : ∀ {b : Addr} {o : Obj}, s1.heap.get? b = some o → b ≠ a := fun {b o} z => Nat.ne_of_lt (Nat.lt_of_lt_of_le (Heap.lt_size z) ha)
  have nhd : ∀ {b : Addr} {o : Obj}, s1.heap.get? b = some o → b ≠ d := fun {b o} z => Nat.ne_of_lt (Nat.lt_of_lt_of_le (Heap.lt_size z) hd)
  have nH : ∀ {b : Addr} {o : HO}, H1 b = some o → b ≠ d := fun {b o} z => Nat.ne_of_lt (Nat.lt_of_lt_of_le (I1.hok.lt z) hd)
  have nHa : ∀ {b : Addr} {o : HO}, H1 b = some o → b ≠ a := fun {b o} z => Nat.ne_of_lt (Nat.lt_of_lt_of_le (I1.hok.lt z) ha)
  have kG : ∀ b o, s1.heap.get? b = some o → G.get? b = some o := fun b o z => by rw [gk b (nha z)]; exact k b o z
  have U : L2.Un X.fs [] H1 (upd H1 d (.xd fs)) s1.heap G := {
    keep := fun b o z _ _ _ => kG b o z
    slot := fun b o z _ _ _ => ⟨o.slots, kG b o z⟩
    free := fun b o z n _ => by rw [upd_ne (nhd z)]; exact n
    there := fun b o z _ => ⟨o, kG b o z⟩
    tups := fun b xs z => by rw [upd_ne (nH z)]; exact z
    frzs := fun b o v z => by rw [upd_ne (nH z)]; exact z
    tbls := fun b ps z => ⟨#[], by rw [upd_ne (nH z), z]; simp⟩ }
  refine ⟨G, I1.un (t' := s'.toks) U fun b o z => ?_, fun b o z => ?_, ge, ?_⟩
  · by_cases hb : b = d
    · subst hb
      rw [upd_same] at z
      cases z
      exact ⟨mA, hns.at fun o y => (gk b hda).trans y, rel⟩
    · rw [upd_ne hb] at z
      exact (I1.hok b o z).stay (fun c v _ y => kG c v y) (fun c hc => by rw [upd_ne (nH hc)]; exact hc) (fun c xs hc => by rw [upd_ne (nH hc)]; exact hc)
  · by_cases hb : b = a
    · rw [hb, ge] at z; cases z
    · rw [← gk b hb]; exact z
  · rw [upd_ne hda.symm]
    exact I1.hok.fresh ha
end
/-- a row of an error class's text -/
structure ErrT (P : Program) (K : PySem.W.Frag) (mg : Str → Option Value) (C fI : Addr) (B newId initId : String) (bmB : List Value) (ps : List Str) (params : Arguments) (body : List Stmt) (scope : Scope) : Prop where
  f : ErrF P K mg C fI B newId initId bmB ps params body scope
  s : ErrS ps params scope
section
variable {X : Cx} {C fI : Addr} {B newId initId : String} {bmB : List Value} {params : Arguments} {body : List Stmt} {scope : Scope} {p0 p1 p2 p3 p4 p5 q1 q2 q3 q4 r1 r2 r3 r4 : Pos} {kk : Nat} {txt x y f f2 cn : Str} {pins : List (Addr × Obj)} {σ : L2.St} {H1 : Hp} {s1 : Shared}
theorem errW (I : L2.Inv X pins σ H1 s1) : ErrW X.K X.mg s1.heap := by
  obtain ⟨mb, h1, h2⟩ := I.mod.blt
  exact ⟨I.kIn, I.mod.glob.keeps I.bk, mb, h1.keeps I.bk, (h2 _ (by decide)).trans PyProof.Rows.Boot.«super»⟩
/-- C(x) is made -/
theorem err_make1 {u : Value} {R : Value → Shared → Prop} {E : Value → Shared → Prop} (T : ErrT X.prog X.K X.mg C fI B newId initId bmB ["self", x] params body scope) (hev : SupOk scope txt kk p0 p1 p2 p3 p4) (D : Sto scope x f q1 q2 q3 q4) (hfn : PySem.W.findIn X.K (.ref C) f = some none)
    (hbody : body = [.Expr (supE txt kk p0 p1 p2 p3 p4) p5, .Assign [.Attribute (.Name "self" q1) f q2] (.Name x q3) q4]) (hr : Room 1 X.A) (I : L2.Inv X pins σ H1 s1)
    (h : ∀ (a t d : Addr) (s' : Shared), s1.heap.objs.size ≤ a → s1.heap.objs.size ≤ d → d ≠ a → (∀ b o, s1.heap.get? b = some o → s'.heap.get? b = some o) → s'.heap.get? a = some (erO C t (some d)) → s'.heap.Ns1 d (fun z => if z = f then some u else none) → s'.gens = s1.gens → s'.os = s1.os → R (.ref a) s') :
    wpAny (model X.prog X.w) X.A (call (.ref C) [u]) R E s1 := by
  obtain ⟨nm, q, N, bs, bm, sn, sub, ab, col, dd, k0, k1, k2, k3, k5, hC, hT, hp⟩ := T.f.cls
  have hsz : s1.heap.objs.size ≤ s1.heap.objs.size + 1 := Nat.le_succ _
  have I0 := I
  obtain ⟨hp, g, dr, tk, os⟩ := s1
  have kk' : ∀ b o, hp.get? b = some o → ((hp.push (PySem.W.kdv_tup [u])).push (PySem.HandSPX.excO C hp.objs.size)).get? b = some o := fun b o e => Heap.get?_push_of_some _ (Heap.get?_push_of_some _ e)
  have hget : ((hp.push (PySem.W.kdv_tup [u])).push (PySem.HandSPX.excO C hp.objs.size)).get? (hp.objs.size + 1) = some (erO C hp.objs.size none) := by heap_get
  have W := (errW I).keeps kk'
  have new : ∀ {b : Addr} {o : Obj}, hp.get? b = some o → hp.objs.size + 1 ≠ b := fun {b o} z => Nat.ne_of_gt (Nat.lt_of_lt_of_le (Heap.lt_size z) hsz)
  obtain ⟨og, g1⟩ : ∃ o, hp.get? mainGlobals = some o := by
    obtain ⟨o, _, _, z, _⟩ := (errW I).glob
    exact ⟨o, z⟩
  obtain ⟨ob, g2⟩ : ∃ o, hp.get? builtinsNs = some o := by
    obtain ⟨mb, ⟨o, _, _, z, _⟩, _⟩ := (errW I).blt
    exact ⟨o, z⟩
  refine wpAny_call (PySem.HandSPX.call_own T.f.bf hT (I.kIn _ _ hC) (PySem.W.looks_findIn I.kIn T.f.ini) (fun self => PySem.W.bind_fn I.kIn self T.f.tI) (by rw [sizeLine_eq]; show 1 ≤ _; decide) ?_)
  refine err_init1 (s := ⟨_, g, dr, tk, os⟩) (t0 := hp.objs.size) T.f T.s hev D hfn hbody (hr.make C [u] []).depth W (I.nolimit.keeps kk') ?_ (new g1) (new g2) hget fun s' F => ?_
  · cases z : X.K.lookup (hp.objs.size + 1) with
    | none => rfl
    | some o => exact absurd rfl (new (I.kIn _ _ z))
  · obtain ⟨k, ⟨t, d, h1, h2, h3, h4⟩, hg, ho⟩ := F
    have hlt := Heap.lt_size hget
    exact ⟨rfl, h _ t d s' hsz (Nat.le_trans (Nat.le_of_lt (Nat.lt_of_succ_lt hlt)) h3) h4 (fun b o z => k b o (new z).symm (kk' b o z)) h1 h2 hg ho⟩
/-- raise C(x): the error, its dict at d, new -/
def tMk1 (C : Addr) (f : Str) (ta : TA) : L2.St → Hp → XK → Prop := fun σ H Q => ta σ H fun vs H1 => ∃ v, vs = [v] ∧ ∀ d, H1 d = none → Q (.ref C) (some d) (upd H1 d (.xd [(f, v)]))
theorem relO1 {f : Str} {v : V} {u : Value} (r : RelV v u) (g : Str) : RelO (([(f, v)] : List (Str × V)).lookup g) (if g = f then some u else none) := relO_put (fs := []) (mA := fun _ => none) r (fun g => True.intro) g
theorem pmk_err1 {e : Expr} {ta : TA} {p pos : Pos} (T : ErrT X.prog X.K X.mg C fI B newId initId bmB ["self", x] params body scope) (hev : SupOk scope txt kk p0 p1 p2 p3 p4) (D : Sto scope x f q1 q2 q3 q4) (hfn : PySem.W.findIn X.K (.ref C) f = some none)
    (hbody : body = [.Expr (supE txt kk p0 p1 p2 p3 p4) p5, .Assign [.Attribute (.Name "self" q1) f q2] (.Name x q3) q4]) (hr : Room 1 X.A) (hg : Gl X cn) (hm : X.mg cn = some (.ref C)) (ha : PA X [e] ta)
    (hdb : (cn == ("__debug__" : Str)) = false := by decide) (he : starEach [e] X.env = (false, eval e X.env) :: starEach [] X.env := by rfl) : PMk X (.Call (.Name cn p) [e] [] pos) (tMk1 C f ta) := by
  intro pins s σ H Q I h
  refine wpAny_Call_Name_kw (ld_glob I hg hm ?_ hdb)
  refine PySem.W.callWith_K (h₀ := X.base) I.ok.mod.kin T.f.kC (thn (ha.run pos pins s σ H _ I h) fun us s1 ⟨vs, H1, I1, r1, v, ev, q1⟩ => ⟨I1.kIn, ?_⟩) he rfl
  subst ev
  cases r1 with
  | @cons _ u _ ur ru rr =>
    cases rr
    show wpAny _ _ (call (.ref C) [u]) _ _ _
    refine err_make1 T hev D hfn hbody hr I1 fun a t d s' z1 z2 z3 z4 z5 z6 z7 z8 => ?_
    obtain ⟨G, J, kG, ge, na⟩ := err_inv I1 z1 z2 z3 z4 z6 (relO1 ru)
    exact ⟨a, _, _, _, _, .ref C, some d, rfl, J, kG, ge, z5, ⟨rfl, rfl⟩, rfl, rfl, na, z8, by rw [z7]; exact I1.bare, raises_own T.f.exC T.f.tyC, q1 d (I1.hok.fresh z2)⟩
end
end L3
namespace L3
open PySem PySem.Spec PyProof.Rows L2
open MeetsSeq MeetsSeq2 MeetsSeq3 SeqRoads2
open AutoSeq1 (wpAny_loadPart')
/-- x == y answers b, and nothing changes -/
def EqStep (X : Cx) (H : Hp) (x y : V) (b : Bool) : Prop := ∀ (pins : List (Addr × Obj)) (s : Shared) (σ : L2.St) (H' : Hp) (u v : Value) (Q : Bool → Shared → Prop) (E' : Value → Shared → Prop), L2.Inv X pins σ H' s → Same H H' → RelV x u → RelV y v →
  (∀ H'' s', L2.Inv X pins σ H'' s' → Same H' H'' → Q b s') → wpAny (model X.prog X.w) X.A.in1 (eqBool u v) Q E' s
section
variable {X : Cx} {C f : Addr} {fd : FuncData} {k : Nat} {sp : Sp} {y : Str}
theorem EqStep.self {H : Hp} {a : Addr} : EqStep X H (.ref a) (.ref a) true := by
  intro pins s σ H' u v Q E' I sm r1 r2 h
  cases r1
  cases r2
  unfold eqBool
  refine wpAny_holding ?_
  exact wpAny_ite_split (fun _ => wpAny_bind (wpAny_rule (wpAny_pure (h H' s I (Same.refl _))))) (fun z => (z (by simp)).elim)
theorem EqStep.own {H : Hp} {a b : Addr} {z : Bool} (F : FnOkG X.prog X.w X.K X.mg X.base CX0 k f fd ["self", y] sp) (hr : Room (k + 1) X.A) (hG : X.A.guards = some []) (hb : L2.Binds X.K fd ["self", y] []) (m : Meth X.K C "__eq__" f) (hne : a ≠ b)
    (hn : PySem.W.notFirst X.K C (.ref C) = true) (h : ∀ H', Same H H' → (∃ dx fs, H' a = some (.ins C dx fs)) ∧ (∃ dx fs, H' b = some (.ins C dx fs)) ∧ sp [.ref a, .ref b] H' (fun v H'' => v = .bl z ∧ Same H' H'') E0) : EqStep X H (.ref a) (.ref b) z := by
  intro pins s σ H' u v Q E' I sm r1 r2 hQ
  cases r1
  cases r2
  obtain ⟨⟨dx, fs, ha⟩, ⟨dy, gs, hb'⟩, h⟩ := h H' sm
  obtain ⟨mA, O, _⟩ := ins_get I.hok ha
  obtain ⟨od, J, _⟩ := O.look
  obtain ⟨mB, O2, _⟩ := ins_get I.hok hb'
  obtain ⟨od2, J2, _⟩ := O2.look
  obtain ⟨mm, FF⟩ := I.fr
  unfold eqBool
  refine wpAny_holding ?_
  refine wpAny_ite_split (fun hab => absurd (by have := eq_of_beq hab; injection this) hne) (fun _ => ?_)
  refine wpAny_bind ?_
  have hu := hr.units
  refine PySem.W.cmp_K (op := .Eq) (by show X.A.units + 1 < cLine; omega) FF I.ok.mod.kin J J2.type hn m.at_ m.fn ?_
  refine run_own (vs := [.ref a, .ref b]) (us := [.ref a, .ref b]) F hr hG hb I (.cons rfl (.cons rfl .nil)) h fun w s' hq => ?_
  obtain ⟨v, H2, I2, rv, rfl, sm2⟩ := hq
  cases rv
  exact (show wpAny _ _ (truthy (.bool z)) _ _ _ from wpAny_truthy_bool (hQ H2 s' I2 sm2))
end
end L3
namespace L3
open PySem PySem.Spec PyProof.Rows L2
/-- each list whose repr is under way holds an own object -/
def GOk (H : Hp) (g : List Code) : Prop := ∀ id v rest kw, Code.builtin id ⟨v :: rest, kw⟩ ∈ g → ∃ (l m C dx : Addr) (xs : List V) (fs : List (Str × V)), v = .ref l ∧ H l = some (.lst xs) ∧ V.ref m ∈ xs ∧ H m = some (.ins C dx fs)
theorem GOk.nil (H : Hp) : GOk H [] := fun _ _ _ _ h => nomatch h
theorem GOk.same {H H' : Hp} {g : List Code} (h : GOk H g) (s : Same H H') : GOk H' g := fun id v rest kw hm => by
  obtain ⟨l, m, C, dx, xs, fs, h1, h2, h3, h4⟩ := h id v rest kw hm
  exact ⟨l, m, C, dx, xs, fs, h1, s _ _ h2, h3, s _ _ h4⟩
theorem GOk.cons {H : Hp} {g : List Code} {id : String} {rest : List Value} {kw : List (Str × Value)} {l m C dx : Addr} {xs : List V} {fs : List (Str × V)} (h : GOk H g) (h2 : H l = some (.lst xs)) (h3 : V.ref m ∈ xs) (h4 : H m = some (.ins C dx fs)) : GOk H (.builtin id ⟨.ref l :: rest, kw⟩ :: g) := fun id' v' rest' kw' hm => by
  rcases List.mem_cons.mp hm with e | hm
  · cases e
    exact ⟨l, m, C, dx, xs, fs, rfl, h2, h3, h4⟩
  · exact h _ _ _ _ hm
theorem reads_mem {h : Heap} : ∀ {vs : List Value} {ds : List PyData} {as : List Addr}, ReadsAll h vs ds as → ∀ v ∈ vs, ∃ d as', Reads h v d as'
  | _, _, _, .nil, v, hv => nomatch hv
  | _, _, _, .cons r rs, v, hv => by
    rcases List.mem_cons.mp hv with rfl | hv
    · exact ⟨_, _, r⟩
    · exact reads_mem rs v hv
theorem vals_mem : ∀ {xs : List V} {us : List Value}, Vals xs us → ∀ {m : Addr}, V.ref m ∈ xs → Value.ref m ∈ us
  | _, _, .nil, m, h => nomatch h
  | _, _, .cons r t, m, h => by
    rcases List.mem_cons.mp h with e | h
    · subst e
      cases r
      exact List.mem_cons_self
    · exact List.mem_cons_of_mem _ (vals_mem t h)
section
variable {X : Cx} {pins : List (Addr × Obj)} {σ : L2.St} {H : Hp} {s : Shared} {g : List Code}
/-- what can be read as data is none of these lists -/
theorem gok_clear (I : L2.Inv X pins σ H s) (hg : GOk H g) {b : Addr} {d : PyData} {as : List Addr} (r : Reads s.heap (.ref b) d as) : Clear g b := fun id v rest kw hm z => by
  obtain ⟨l, m, C, dx, xs, fs, h1, h2, h3, h4⟩ := hg id v rest kw hm
  rw [h1] at z
  obtain rfl := Value.ref.inj z
  obtain ⟨_, its, n, rv, hl⟩ := I.hok _ _ h2
  obtain ⟨mA, O, _⟩ := ins_get I.hok h4
  have hm' := vals_mem rv h3
  have hmo : s.heap.get? m = some (PySem.W.instObj C dx) := by
    obtain ⟨_, _, _, q, _⟩ := I.hok _ _ h4
    exact q
  cases r with
  | list q1 q2 q3 q4 =>
    rw [hl] at q1
    cases q1
    have e3 : Data.seq its.toArray n = Data.seq _ _ := q3
    cases e3
    obtain ⟨d', as', r'⟩ := reads_mem q4 (.ref m) (by simpa using hm')
    cases r' with
    | list w1 w2 _ _ => rw [hmo] at w1; cases w1; cases w2
    | tuple w1 w2 _ _ => rw [hmo] at w1; cases w1; cases w2
    | dict w1 w2 _ _ _ => rw [hmo] at w1; cases w1; cases w2
  | tuple q1 q2 q3 q4 => rw [hl] at q1; cases q1; exact absurd (Value.type.inj q2) (by decide)
  | dict q1 q2 q3 q4 q5 => rw [hl] at q1; cases q1; exact absurd (Value.type.inj q2) (by decide)
end
/-- an around that stands under X.A, with the guards g -/
structure AIn (X : Cx) (k : Nat) (g : List Code) (A : Around) : Prop where
  room : Room k A
  gd : A.guards = some g
  env : ∀ {pins : List (Addr × Obj)} {σ : L2.St} {H : Hp} {s : Shared}, L2.Inv X pins σ H s → Env0 X.prog X.w X.K X.mg X.base A X.stack s H
theorem AIn.base {X : Cx} {k : Nat} {g : List Code} (hr : Room k X.A) (hg : X.A.guards = some g) : AIn X k g X.A := ⟨hr, hg, fun I => I.env0⟩
theorem AIn.in1 {X : Cx} {k : Nat} {g : List Code} {A : Around} (h : AIn X (k + 1) g A) : AIn X k g A.in1 := ⟨h.room.in1, h.gd, fun I => (h.env I).in1⟩
theorem AIn.mono {X : Cx} {j k : Nat} {g : List Code} {A : Around} (h : AIn X k g A) (hj : j ≤ k) : AIn X j g A := ⟨h.room.mono hj, h.gd, h.env⟩
/-- repr(x) is t, and nothing changes -/
def ReprStep (X : Cx) (k : Nat) (H : Hp) (x : V) (t : Str) : Prop := ∀ (base : Nat) (A : Around) (g : List Code) (pins : List (Addr × Obj)) (s : Shared) (σ : L2.St) (H' : Hp) (u : Value) (Q : Str → Shared → Prop) (E' : Value → Shared → Prop), base + t.length ≤ sizeLine → AIn X k g A → GOk H' g → L2.Inv X pins σ H' s → Same H H' → RelV x u →
  (∀ H'' s', L2.Inv X pins σ H'' s' → Same H' H'' → Q t s') → wpAny (model X.prog X.w) A (pyReprUnder base u) Q E' s
section
variable {X : Cx} {k : Nat} {H : Hp}
theorem ReprStep.data {x : V} {d : PyData} (hd : Dp X.K H x d) (hs : d.showable = true) (hz : d.shown.length ≤ sizeLine) (hp : d.depth ≤ 50) : ReprStep X k H x d.shown := by
  intro base A g pins s σ H' u Q E' hb hA hg I sm rx hQ
  have hd' := Dp.same sm hd
  obtain ⟨as, r⟩ := Dp.reads I d x u hd' rx
  obtain ⟨bs, hbs, hk⟩ := ReprK.of_reads (prog := X.prog) (w := X.w) r hs (PyData.noDict_hsm (dp_noDict (K := X.K) (H := H') hd')) hz
  have hu := hA.room.units
  refine hk base hb A g E' s Q hA.gd (fun b hbm => ?_) (by omega) (fun _ _ e => e) fun h' tk kk => hQ H' _ (I.kept kk) (Same.refl _)
  obtain ⟨d', as', r', _⟩ := hbs b hbm
  exact gok_clear I hg r'
end
/-- a def that is called while reprs are under way -/
structure FnOkH (P : Program) (w : World) (K : PySem.W.Frag) (mg : Str → Option Value) (base : Heap) (CX : CXT) (k : Nat) (f : Addr) (fd : FuncData) (ps : List Str) (sp : Sp) : Prop where
  len : ∀ vs H Q E, sp vs H Q E → vs.length = ps.length
  run : ∀ (A : Around) (outer : List Env) (s : Shared) (H : Hp) (args : Args) (us : List Value) (vs : List V) (Q : VK) (E : XK) (g : List Code), Room k A → A.guards = some g → GOk H g → Env0 P w K mg base A outer s H → BindsTo s fd args (ps.zip us) → Vals vs us → sp vs H Q E →
    codeAny (model P w) A (.call (.ref f) args) (CR CX outer P w H s Q E) s
theorem FnOkH.toG {P : Program} {w : World} {K : PySem.W.Frag} {mg : Str → Option Value} {base : Heap} {CX : CXT} {k : Nat} {f : Addr} {fd : FuncData} {ps : List Str} {sp : Sp} (F : FnOkH P w K mg base CX k f fd ps sp) : FnOkG P w K mg base CX k f fd ps sp :=
  ⟨F.len, fun A outer s H args us vs Q E hr hg => F.run A outer s H args us vs Q E [] hr hg (GOk.nil H)⟩
theorem okH {P : Program} {w : World} {K : PySem.W.Frag} {mg : Str → Option Value} {base : Heap} {x qual : Str} {st : Stmt} {f : Addr} {fd : FuncData} {N ps : List Str} {k : Nat} {sp : Sp} (F : Fun K x qual st f fd) (S : FnScope N ps (defScope st)) (len : ∀ vs H Q E, sp vs H Q E → vs.length = ps.length)
    (hbody : ∀ (cdv : Value) (A : Around) (outer : List Env) (s : Shared) (H : Hp) (vs : List V) (Q : VK) (E : XK) (g : List Code), Room k (A.deeper (envOfC qual (defScope st) s.heap.objs.size f cdv)) → A.guards = some g → GOk H g → sp vs H Q E →
      ∃ t, PSs (cxOf CX0 P w K mg base N qual (defScope st) f cdv A outer s H E).nox (defBody st) t ∧ t { nx := fun _ H' => Q .non H', rt := Q } (L2.start N vs) H) : FnOkH P w K mg base CX0 (k + 1) f fd ps sp := by
  obtain ⟨oc, od, kV, doc, pm, an, cdv, ct, osl, rfl, lk, hcd⟩ := F.ex
  refine ⟨len, fun A outer s H args us vs Q E g hr hg hgo e0 hb r hsp => ?_⟩
  refine LamX.run_ofS lk hcd S hr e0 hb r (len _ _ _ _ hsp) fun hr' => ?_
  obtain ⟨t, h, q⟩ := hbody cdv A outer s H vs Q E g hr' hg hgo hsp
  exact ⟨t, h.nox, q⟩
section
variable {X : Cx} {C f : Addr} {fd : FuncData} {k : Nat} {sp : Sp} {H : Hp}
theorem ReprStep.own {a : Addr} {t : Str} (F : FnOkH X.prog X.w X.K X.mg X.base CX0 k f fd ["self"] sp) (hb : L2.Binds X.K fd ["self"] []) (m : Meth X.K C "__repr__" f)
    (h : ∀ H', Same H H' → (∃ dx fs, H' a = some (.ins C dx fs)) ∧ sp [.ref a] H' (fun v H'' => v = .str t ∧ Same H' H'') E0) (hz : t.length ≤ sizeLine) : ReprStep X k H (.ref a) t := by
  intro base A g pins s σ H' u Q E' hbs hA hg I sm rx hQ
  cases rx
  obtain ⟨⟨dx, fs, ha⟩, h⟩ := h H' sm
  obtain ⟨mA, O, _⟩ := ins_get I.hok ha
  obtain ⟨od, J, _⟩ := O.look
  have X1 := I.kIn
  have hu := hA.room.units
  have hrun : wpAny (model X.prog X.w) A (call (.ref f) [.ref a]) (fun v s' => ∃ H'' tk, v = .str t tk ∧ L2.Inv X pins σ H'' s' ∧ Same H' H'') E' s := by
    have hl : ([Value.ref a] ++ []).length = ["self"].length := rfl
    have hb' : BindsTo s fd ⟨[.ref a], []⟩ ([("self" : Str)].zip [Value.ref a]) := hb s [.ref a] I.kIn rfl
    refine wpAny_call (codeAny_mono (F.run A X.stack s H' ⟨[.ref a], []⟩ [.ref a] [.ref a] _ E0 g hA.room hA.gd hg (hA.env I) hb' (.cons rfl .nil) h) fun r s' hq => ?_)
    cases r with
    | error e => exact (show False from hq).elim
    | ok fl =>
      cases fl with
      | ret w =>
        obtain ⟨v, H2, I2, rv, rfl, sm2⟩ := I.after hq
        obtain ⟨tk, rfl⟩ := rv
        exact ⟨H2, tk, rfl, I2, sm2⟩
      | next => exact False.elim hq
      | brk => exact False.elim hq
      | cont => exact False.elim hq
  refine wpAny_pyReprUnder_ref (by omega) ?_
  unfold pyReprObjUnder pyReprObjBy
  refine wpAny_bind (wpAny_cRoomFor (by omega) ?_)
  refine wpAny_bind (wpAny_bind (J.type.here ((PySem.W.looks_findIn X1 m.at_).here ?_)))
  show wpAny _ _ (if (some (Value.ref f)).isNone = true then _ else _) _ _ _
  rw [if_neg (by simp)]
  refine wpAny_bind ?_
  simp only [callSpecialIfBoundBy?, bindSpecialIfBound?]
  refine wpAny_holding (wpAny_bind (wpAny_bind (wpAny_bind (J.type.here ((PySem.W.looks_findIn X1 m.at_).here ?_)))))
  refine wpAny_bind (wpAny_askSetting (wpAny_ite ?_))
  have last : ∀ (Q' : Option Value → Shared → Prop), (∀ H'' s' tk, L2.Inv X pins σ H'' s' → Same H' H'' → Q' (some (.str t tk)) s') → wpAny (model X.prog X.w) A ((match reprUnder? (.ref f), [Value.ref a] with | some twin, [self] => call twin [self, rawInt base] | _, _ => call (.ref f) ([Value.ref a] ++ [])) >>= fun v => pure (some v)) Q' E' s := fun Q' hQ' => by
    refine wpAny_bind (wpAny_mono hrun (fun v s' hv => ?_) fun _ _ e => e)
    obtain ⟨H'', tk, rfl, I2, sm2⟩ := hv
    exact wpAny_pure (hQ' H'' s' tk I2 sm2)
  have fin : ∀ H'' s' tk, L2.Inv X pins σ H'' s' → Same H' H'' → wpAny (model X.prog X.w) A (do if ← isInstance (.str t tk) (.type "str") then pure (Value.str t tk) else raiseError "TypeError" s!"__repr__ returned non-string (type {← typeNameOf (.str t tk)})") (fun v s'' => ∃ x u, v = .str x u ∧ Q x s'') E' s' := fun H'' s' tk I2 sm2 => by
    refine wpAny_bind (wpAny_isInstance (typeIs_str _ _ _) isSubtype_str_str ?_)
    rw [if_pos rfl]
    exact wpAny_pure ⟨t, tk, rfl, hQ H'' s' I2 sm2⟩
  split
  · exact wpAny_bind ((PySem.W.bind_fn X1 _ (beq_iff_eq.mp m.fn)).here (wpAny_pure (last _ fun H'' s' tk I2 sm2 => fin H'' s' tk I2 sm2)))
  · exact wpAny_tryCatch (wpAny_bind ((PySem.W.bind_fn X1 _ (beq_iff_eq.mp m.fn)).here (wpAny_pure (last _ fun H'' s' tk I2 sm2 => fin H'' s' tk I2 sm2))))
end
end L3
namespace L3
open PySem PySem.Spec PyProof.Rows L2
open Builtin Builtin.List
/-- a record of ours that may change -/
structure Mine (X : Cx) (pins : List (Addr × Obj)) (P : Addr) : Prop where
  new : X.s_0.heap.objs.size ≤ P
  cell : ∀ x c, X.env.cells.lookup x = some c → c ≠ P
  pin : ∀ p ∈ X.pn ++ pins, p.1 ≠ P
section
variable {X : Cx} {pins : List (Addr × Obj)} {σ : L2.St} {H : Hp} {s : Shared} {P : Addr}
theorem Mine.of (I : L2.Inv X pins σ H s) (hP : s.heap.objs.size ≤ P) : Mine X pins P := by
  refine ⟨Nat.le_trans I.sz hP, fun x c e z => ?_, fun p hp z => ?_⟩
  · obtain ⟨v, o, hv, _⟩ := I.cell x c e
    rw [z] at hv
    exact absurd (Heap.lt_size hv) (Nat.not_lt.mpr hP)
  · obtain ⟨q, _⟩ := I.pin p hp
    rw [z] at q
    exact absurd (Heap.lt_size q) (Nat.not_lt.mpr hP)
end
end L3
namespace L3
open PySem PySem.Spec PyProof.Rows L2
def keyD : Key → PyData
  | .inl i => .int i
  | .inr x => .str x
theorem keyD_noDict : ∀ ks : List Key, PyData.hasDictAll (ks.map keyD) = false
  | [] => by simp only [List.map_nil, PyData.hasDictAll]
  | .inl i :: ks => by
    have := keyD_noDict ks
    simp only [List.map_cons, PyData.hasDictAll, keyD, PyData.hasDict, this, Bool.or_self]
  | .inr i :: ks => by
    have := keyD_noDict ks
    simp only [List.map_cons, PyData.hasDictAll, keyD, PyData.hasDict, this, Bool.or_self]
section
variable {P : Program} {w : World} {h : Heap}
/-- what the entries of a dict hold -/
theorem ent_of : ∀ {es : List DictEntry} {kvs : List (Key × V)} {vs : List (Key × Value)}, KV kvs vs → Pairs (mixKind P w) es vs → (∃ as, ReadsAll h (es.map (·.key)) (kvs.map fun kv => keyD kv.1) as) ∧ Vals (kvs.map (·.2)) (es.map (·.val))
  | _, _, _, .nil, .nil => ⟨⟨_, .nil⟩, .nil⟩
  | e :: es, kv :: kvs, v :: vs, .cons ⟨h1, h2⟩ r, .cons k1 k2 p => by
    obtain ⟨⟨as, ra⟩, rv⟩ := ent_of r p
    refine ⟨?_, .cons (by show RelV kv.2 e.val; rw [k2]; exact h2) rv⟩
    have k1 : keyIs v.1 e.key = true := k1
    rcases keyIs_shape k1 with ⟨i, t, e1, e2⟩ | ⟨x, t, e1, e2⟩
    · refine ⟨[] ++ as, .cons ?_ ra⟩
      show Reads h e.key (keyD kv.1) []
      rw [e2, h1, e1]
      exact .int i t
    · refine ⟨[] ++ as, .cons ?_ ra⟩
      show Reads h e.key (keyD kv.1) []
      rw [e2, h1, e1]
      exact .str x t
end
theorem zip_fstD {α β : Type} : ∀ {a : List α} {b : List β}, a.length = b.length → (a.zip b).map (·.1) = a
  | [], [], _ => rfl
  | x :: a, y :: b, h => by rw [List.zip_cons_cons, List.map_cons, zip_fstD (Nat.succ.inj h)]
theorem zip_sndD {α β : Type} : ∀ {a : List α} {b : List β}, a.length = b.length → (a.zip b).map (·.2) = b
  | [], [], _ => rfl
  | x :: a, y :: b, h => by rw [List.zip_cons_cons, List.map_cons, zip_sndD (Nat.succ.inj h)]
/-- the data of a dict -/
def dDict (kvs : List (Key × V)) (ds : List PyData) : PyData := .dict ((kvs.map fun kv => keyD kv.1).zip ds)
section
variable {X : Cx} {k : Nat} {H : Hp}
theorem ReprStep.dct {a : Addr} {kvs : List (Key × V)} {ds : List PyData} (ha : H a = some (.dK kvs)) (hv : DpAll X.K H (kvs.map (·.2)) ds) (hs : (dDict kvs ds).showable = true) (hz : (dDict kvs ds).shown.length ≤ sizeLine) (hp : (dDict kvs ds).depth ≤ 50) : ReprStep X k H (.ref a) (dDict kvs ds).shown := by
  intro base A g pins s σ H' u Q E' hb hA hg I sm rx hQ
  cases rx
  have ha' := sm _ _ ha
  have hv' := DpAll.same sm hv
  have hu := hA.room.units
  obtain ⟨z, hsys, vs, rel, o, es, ep, ho, hex, hd, hkeys, hpairs, hnd⟩ := dk_of I.hok ha'
  obtain ⟨⟨as, ra⟩, rv⟩ := ent_of (h := s.heap) rel hpairs
  obtain ⟨bs, rb⟩ := Dp.readsAll I ds _ _ hv' rv
  have hlen : (kvs.map fun kv => keyD kv.1).length = ds.length := by rw [← dpAll_len hv', List.length_map, List.length_map]
  unfold dDict at hs hz hp hQ hb
  have e1 := zip_fstD hlen
  have e2 := zip_sndD hlen
  have nk := keyD_noDict (kvs.map (·.1))
  rw [List.map_map] at nk
  have nk : PyData.hasDictAll (kvs.map fun kv => keyD kv.1) = false := nk
  have nv : PyData.hasDictAll ds = false := dpAll_noDict hv'
  generalize (kvs.map fun kv => keyD kv.1).zip ds = kd at *
  rw [← e1] at ra nk
  rw [← e2] at rb nv
  have hz' : (dictText (PyData.shownKv kd)).length ≤ sizeLine := by simpa only [PyData.shown] using hz
  obtain ⟨hs1, hs2⟩ := PyData.showableKv_split kd (by simpa [PyData.showable] using hs)
  obtain ⟨b1, hb1, k1⟩ := ReprAllK.of_readsAll (prog := X.prog) (w := X.w) ra hs1 (fun q => by rw [nk] at q; cases q) (fun t ht => let ⟨p, hp, hl⟩ := PyData.shownKv_key_le kd t ht; Nat.le_trans hl (Nat.le_trans (dictText_mem_le hp) hz'))
  obtain ⟨b2, hb2, k2⟩ := ReprAllK.of_readsAll (prog := X.prog) (w := X.w) rb hs2 (fun q => by rw [nv] at q; cases q) (fun t ht => let ⟨p, hp, hl⟩ := PyData.shownKv_val_le kd t ht; Nat.le_trans hl (Nat.le_trans (dictText_mem_le hp) hz'))
  have hcls : o.cls = .type "dict" := hex.1
  have r : Reads s.heap (.ref a) (.dict kd) _ := .dict ho hcls hd ra rb
  have hbm : ReadAtMost s.heap (PyData.depthKv kd) (b1 ++ b2) := (hb1.mono (PyData.depthAll_keys_le kd)).append (hb2.mono (PyData.depthAll_vals_le kd))
  have hna : a ∉ b1 ++ b2 := not_mem_of_deeper r (by simp only [PyData.depth]; omega) hbm
  have hk : ReprK X.prog X.w (a :: (b1 ++ b2)) s.heap (PyData.depthKv kd + 1) (.ref a) (dictText (List.zipWith (fun k v : Str => k ++ ": " ++ v) (PyData.shownAll (kd.map (·.1))) (PyData.shownAll (kd.map (·.2))))) := ReprK.dict ho hcls hd hsys hna (ReprEntriesK.of_two es.toList _ _
    (k1.more_le (fun b hb => List.mem_append_left _ hb) (PyData.depthAll_keys_le kd)) (k2.more_le (fun b hb => List.mem_append_right _ hb) (PyData.depthAll_vals_le kd)))
  have hsh : (PyData.dict kd).shown = dictText (List.zipWith (fun k v : Str => k ++ ": " ++ v) (PyData.shownAll (kd.map (·.1))) (PyData.shownAll (kd.map (·.2)))) := by simp only [PyData.shown, PyData.shownKv_eq]
  have hdp : (PyData.dict kd).depth = PyData.depthKv kd + 1 := by simp only [PyData.depth]
  rw [hsh] at hb hQ
  rw [hdp] at hp
  refine hk base hb A g E' s Q hA.gd (fun b hbm' => ?_) (by omega) (fun _ _ e => e) fun h' tk kk => hQ H' _ (I.kept kk) (Same.refl _)
  rcases List.mem_cons.mp hbm' with rfl | hbm'
  · exact gok_clear I hg r
  · obtain ⟨d', as', r', _⟩ := hbm b hbm'
    exact gok_clear I hg r'
end
end L3
namespace L3
open PySem PySem.Spec PyProof.Rows L2
mutual
inductive DpD (K : PySem.W.Frag) (H : Hp) : V → PyData → Prop
  | data {v : V} {d : PyData} : Dp K H v d → DpD K H v d
  | lst {a : Addr} {xs : List V} {ds : List PyData} : SqL K H a xs → DpDs K H xs ds → DpD K H (.ref a) (.list ds)
  | tup {a : Addr} {xs : List V} {ds : List PyData} : SqT K H a xs → DpDs K H xs ds → DpD K H (.ref a) (.tuple ds)
  | dct {a : Addr} {kvs : List (Key × V)} {ds : List PyData} {kd : List (PyData × PyData)} : H a = some (.dK kvs) → DpDs K H (kvs.map (·.2)) ds → kd = (kvs.map fun kv => keyD kv.1).zip ds → DpD K H (.ref a) (.dict kd)
inductive DpDs (K : PySem.W.Frag) (H : Hp) : List V → List PyData → Prop
  | nil : DpDs K H [] []
  | cons {v : V} {vs : List V} {d : PyData} {ds : List PyData} : DpD K H v d → DpDs K H vs ds → DpDs K H (v :: vs) (d :: ds)
end
theorem DpDs.len {K : PySem.W.Frag} {H : Hp} : ∀ {vs : List V} {ds : List PyData}, DpDs K H vs ds → vs.length = ds.length
  | _, _, .nil => rfl
  | _, _, .cons _ t => congrArg (· + 1) t.len
/-- what stands at an address of data so deep at most -/
def Rk (P : Program) (w : World) (h : Heap) (d : PyData) (u : Value) : Prop := (∃ as, Reads h u d as) ∧ (d.showable = true → d.shown.length ≤ sizeLine → ∃ bs, ReadAtMost h d.depth bs ∧ ReprK P w bs h d.depth u d.shown)
def Rks (P : Program) (w : World) (h : Heap) (ds : List PyData) (us : List Value) : Prop := (∃ as, ReadsAll h us ds as) ∧ (PyData.showableAll ds = true → (∀ t ∈ PyData.shownAll ds, t.length ≤ sizeLine) → ∃ bs, ReadAtMost h (PyData.depthAll ds) bs ∧ ReprAllK P w bs h (PyData.depthAll ds) us (PyData.shownAll ds))
section
variable {X : Cx} {pins : List (Addr × Obj)} {σ : L2.St} {H : Hp} {s : Shared}
theorem rk_list {a : Addr} {o : Obj} {us : List Value} {n : Nat} {ds : List PyData} (e1 : s.heap.get? a = some o) (e2 : o.cls = .type "list") (e3 : o.data = .seq us.toArray n) (R : Rks X.prog X.w s.heap ds us) : Rk X.prog X.w s.heap (.list ds) (.ref a) := by
  obtain ⟨⟨as, ra⟩, ks⟩ := R
  have r : Reads s.heap (.ref a) (.list ds) (a :: as) := .list e1 e2 e3 (by simpa using ra)
  refine ⟨⟨_, r⟩, fun sh sz => ?_⟩
  have sz' : (listText (PyData.shownAll ds)).length ≤ sizeLine := by simpa only [PyData.shown] using sz
  obtain ⟨bs, m, k⟩ := ks (by simpa [PyData.showable] using sh) fun t ht => Nat.le_trans (listText_mem_le ht) sz'
  refine ⟨a :: bs, .cons r (by simp only [PyData.depth]; omega) m, ?_⟩
  have out : a ∉ bs := not_mem_of_deeper r (by simp only [PyData.depth]; omega) m
  simp only [PyData.shown, PyData.depth]
  cases us with
  | nil =>
    cases ra
    simp only [listText_nil, PyData.shownAll]
    exact ReprK.listEmpty e1 e2 e3
  | cons x l => exact ReprK.list e1 e2 e3 out (by simpa using k.length_eq) fun i y e => k.item i y (by simpa using e)
theorem rk_tuple {a : Addr} {o : Obj} {us : List Value} {n : Nat} {ds : List PyData} (e1 : s.heap.get? a = some o) (e2 : o.cls = .type "tuple") (e3 : o.data = .seq us.toArray n) (R : Rks X.prog X.w s.heap ds us) : Rk X.prog X.w s.heap (.tuple ds) (.ref a) := by
  obtain ⟨⟨as, ra⟩, ks⟩ := R
  have r : Reads s.heap (.ref a) (.tuple ds) as := .tuple e1 e2 e3 (by simpa using ra)
  refine ⟨⟨_, r⟩, fun sh sz => ?_⟩
  have sz' : (tupleText (PyData.shownAll ds)).length ≤ sizeLine := by simpa only [PyData.shown] using sz
  obtain ⟨bs, m, k⟩ := ks (by simpa [PyData.showable] using sh) fun t ht => Nat.le_trans (tupleText_mem_le ht) sz'
  refine ⟨a :: bs, .cons r (by simp only [PyData.depth]; omega) m, ?_⟩
  have out : a ∉ bs := not_mem_of_deeper r (by simp only [PyData.depth]; omega) m
  simp only [PyData.shown, PyData.depth]
  exact ReprK.tuple e1 e2 e3 out (by simpa using k)
theorem rk_dict {a : Addr} {kvs : List (Key × V)} {ds : List PyData} {kd : List (PyData × PyData)} (I : L2.Inv X pins σ H s) (ha : H a = some (.dK kvs)) (hl : kvs.length = ds.length) (hk : kd = (kvs.map fun kv => keyD kv.1).zip ds) (R : ∀ us, Vals (kvs.map (·.2)) us → Rks X.prog X.w s.heap ds us) : Rk X.prog X.w s.heap (.dict kd) (.ref a) := by
  obtain ⟨z, sys, vs, rel, o, es, ep, ho, hex, hd, hkeys, hpairs, hnd⟩ := dk_of I.hok ha
  obtain ⟨⟨as, rk⟩, rv⟩ := ent_of (h := s.heap) rel hpairs
  obtain ⟨⟨bs, rb⟩, ks⟩ := R _ rv
  have hlen : (kvs.map fun kv => keyD kv.1).length = ds.length := by rw [List.length_map, hl]
  have f1 := zip_fstD hlen
  have f2 := zip_sndD hlen
  rw [← hk] at f1 f2
  have nk := keyD_noDict (kvs.map (·.1))
  rw [List.map_map] at nk
  have nk : PyData.hasDictAll (kvs.map fun kv => keyD kv.1) = false := nk
  rw [← f1] at rk nk
  rw [← f2] at rb ks
  have r : Reads s.heap (.ref a) (.dict kd) (a :: as ++ bs) := .dict ho hex.1 hd rk rb
  refine ⟨⟨_, r⟩, fun sh sz => ?_⟩
  have sz' : (dictText (PyData.shownKv kd)).length ≤ sizeLine := by simpa only [PyData.shown] using sz
  obtain ⟨h1, h2⟩ := PyData.showableKv_split kd (by simpa [PyData.showable] using sh)
  obtain ⟨b1, m1, k1⟩ := ReprAllK.of_readsAll (prog := X.prog) (w := X.w) rk h1 (fun q => by rw [nk] at q; cases q) fun t ht => by
    obtain ⟨p, hp, le⟩ := PyData.shownKv_key_le kd t ht
    exact Nat.le_trans le (Nat.le_trans (dictText_mem_le hp) sz')
  obtain ⟨b2, m2, k2⟩ := ks h2 fun t ht => by
    obtain ⟨p, hp, le⟩ := PyData.shownKv_val_le kd t ht
    exact Nat.le_trans le (Nat.le_trans (dictText_mem_le hp) sz')
  have m : ReadAtMost s.heap (PyData.depthKv kd) (b1 ++ b2) := (m1.mono (PyData.depthAll_keys_le kd)).append (m2.mono (PyData.depthAll_vals_le kd))
  have out : a ∉ b1 ++ b2 := not_mem_of_deeper r (by simp only [PyData.depth]; omega) m
  refine ⟨a :: (b1 ++ b2), .cons r (by simp only [PyData.depth]; omega) m, ?_⟩
  simp only [PyData.shown, PyData.depth, PyData.shownKv_eq]
  refine ReprK.dict ho hex.1 hd sys out (ReprEntriesK.of_two es.toList _ _ (k1.more_le (fun b q => ?_) (PyData.depthAll_keys_le kd)) (k2.more_le (fun b q => ?_) (PyData.depthAll_vals_le kd)))
  · exact List.mem_append_left _ q
  · exact List.mem_append_right _ q
theorem rks_cons {d : PyData} {ds : List PyData} {u : Value} {us : List Value} (h : Rk X.prog X.w s.heap d u) (t : Rks X.prog X.w s.heap ds us) : Rks X.prog X.w s.heap (d :: ds) (u :: us) := by
  obtain ⟨⟨as, r⟩, k⟩ := h
  obtain ⟨⟨bs, rs⟩, ks⟩ := t
  refine ⟨⟨_, .cons r rs⟩, fun sh sz => ?_⟩
  obtain ⟨s1, s2⟩ : d.showable = true ∧ PyData.showableAll ds = true := by simpa [PyData.showableAll] using sh
  obtain ⟨b1, m1, k1⟩ := k s1 (sz _ (by simp only [PyData.shownAll]; exact List.mem_cons_self))
  obtain ⟨b2, m2, k2⟩ := ks s2 fun t ht => sz t (by simp only [PyData.shownAll]; exact List.mem_cons_of_mem _ ht)
  have l1 : d.depth ≤ PyData.depthAll (d :: ds) := by simp only [PyData.depthAll]; exact Nat.le_max_left _ _
  have l2 : PyData.depthAll ds ≤ PyData.depthAll (d :: ds) := by simp only [PyData.depthAll]; exact Nat.le_max_right _ _
  refine ⟨b1 ++ b2, (m1.mono l1).append (m2.mono l2), ?_⟩
  simp only [PyData.shownAll]
  exact .cons ((k1.more fun b q => List.mem_append_left _ q).level_le l1) (k2.more_le (fun b q => List.mem_append_right _ q) l2)
theorem rk_of (I : L2.Inv X pins σ H s) {v : V} {d : PyData} (h : DpD X.K H v d) : ∀ u, RelV v u → Rk X.prog X.w s.heap d u := by
  induction h using DpD.rec (motive_2 := fun vs ds _ => ∀ us, Vals vs us → Rks X.prog X.w s.heap ds us) with
  | @data v d h =>
    intro u r
    obtain ⟨as, rd⟩ := Dp.reads I d _ _ h r
    refine ⟨⟨as, rd⟩, fun sh sz => ReprK.of_reads rd sh (fun q => ?_) sz⟩
    rw [dp_noDict h] at q
    cases q
  | @lst a xs ds hq hs ih =>
    intro u r
    cases r
    obtain ⟨its, rv, pl, _⟩ := I.list hq
    obtain ⟨o, ho, hc, n, hd⟩ := pl.isList
    exact rk_list ho hc hd (ih _ rv)
  | @tup a xs ds hq hs ih =>
    intro u r
    cases r
    obtain ⟨its, rv, ⟨o, ho, hc, n, hd⟩, _⟩ := I.tuple hq
    exact rk_tuple ho hc hd (ih _ rv)
  | @dct a kvs ds kd ha hs hk ih =>
    intro u r
    cases r
    exact rk_dict I ha (by rw [← hs.len, List.length_map]) hk ih
  | nil =>
    rename_i us r
    cases r
    exact ⟨⟨_, .nil⟩, fun _ _ => ⟨[], (fun _ q => nomatch q), .nil⟩⟩
  | cons h t ih it =>
    rename_i us r
    cases r with
    | cons r1 r2 => exact rks_cons (ih _ r1) (it _ r2)
end
end L3
namespace L3
open PySem PySem.Spec PyProof.Rows L2 PpSet
end L3
namespace L3
open PySem PySem.Spec PyProof.Rows L2
/-- the text of an __init__ with one field -/
def Bd1 (scope : Scope) (body : List Stmt) (x f : Str) : Prop := ∃ txt kk p0 p1 p2 p3 p4 p5 q1 q2 q3 q4, body = [.Expr (supE txt kk p0 p1 p2 p3 p4) p5, .Assign [.Attribute (.Name "self" q1) f q2] (.Name x q3) q4] ∧ SupOk scope txt kk p0 p1 p2 p3 p4 ∧ Sto scope x f q1 q2 q3 q4
/-- an error class with one field -/
def Er1 (P : Program) (K : PySem.W.Frag) (mg : Str → Option Value) (C : Addr) (x f : Str) : Prop := ∃ fI B newId initId bmB params body scope, ErrT P K mg C fI B newId initId bmB ["self", x] params body scope ∧ Bd1 scope body x f ∧ PySem.W.findIn K (.ref C) f = some none
section
variable {X : Cx} {C : Addr} {cn x f y f2 : Str} {W : WX} {p pos pos2 : Pos} {e e2 : Expr} {ta : TA}
/-- raise C(e) -/
theorem ps_raise1 (hc : X.calm = true) (T : Er1 X.prog X.K X.mg C x f) (hr : Room 1 X.A) (tk : Takes X W) (hm : X.mg cn = some (.ref C)) (ha : PA X [e] ta) (hg : Gl X cn := by rfl) (hdb : (cn == ("__debug__" : Str)) = false := by decide) (he : starEach [e] X.env = (false, eval e X.env) :: starEach [] X.env := by rfl) :
    PS X (.Raise (some (.Call (.Name cn p) [e] [] pos)) none pos2) (fun _ σ H => tMk1 C f ta σ H fun cls d H' => W cls d σ H') := by
  obtain ⟨fI, B, newId, initId, bmB, params, body, scope, T, ⟨txt, kk, p0, p1, p2, p3, p4, p5, q1, q2, q3, q4, hb, hev, D⟩, hfn⟩ := T
  exact ps_raise hc tk (pmk_err1 T hev D hfn hb hr hg hm ha hdb he)
end
/-- how ErrF is shown -/
theorem errF_mk {P : Program} {K : PySem.W.Frag} {mg : Str → Option Value} {C fI pr : Addr} {B newId initId : String} {bmB : List Value} {ps : List Str} {params : Arguments} {body : List Stmt} {scope : Scope}
    {nm q : Str} {N : Addr} {bs : List Value} {sn : List Str} {sub : List Value} {ab : Bool} {col : Option Bool} {dd : Option Addr} {k0 k1 k2 k3 k5 : Option Value}
    {qual : Str} {dV kV doc pm ct oc ccl cl : Value} {an od cdd cld : Option Addr} {cda cc : Addr} {osl ccs csl : Array (Option Value)} {vs : Array Value} {file : Str} {tf : Tok}
    (bf : ExcBaseFacts B newId initId bmB) (sf : PySem.W.KxsFacts B initId) (obj : bmB.contains (.type "object") = true) (pass : ∀ self : Value, refuseLoop self "__setattr__" bmB = pure ())
    (lc : K.lookup C = some (excClassObj nm q C N bs (.ref pr :: bmB) true sn sub ab col dd k0 k1 k2 k3 k5 newId))
    (li : K.lookup fI = some ⟨oc, od, .func (PySem.W.ksFn "__init__" qual params body scope dV kV doc pm an (.ref cda) ct cc), osl⟩) (ei : PySem.W.codeIn K (.ref cda) qual = true)
    (lk : K.lookup cda = some ⟨ccl, cdd, .fields vs, ccs⟩) (v2 : vs[2]? = some (.str file tf)) (fl : ((P.main.file : Str) == file) = true) (lcc : K.lookup cc = some ⟨cl, cld, .cell (some (.ref C)), csl⟩)
    (hb : ∀ s us, us.length = ps.length → BindsTo s (PySem.W.ksFn "__init__" qual params body scope dV kV doc pm an (.ref cda) ct cc) ⟨us, []⟩ (ps.zip us))
    (su : PySem.W.ks_superIn K C C "__init__" = some (some (.builtin initId))) (se : PySem.W.mroIn K C (.ref C) = some true) (sb : PySem.W.subIn K (.ref C) (.type B) = some true) (op : PySem.W.nsIn K cStatics "thirdparty.any" = some none)
    (gl : mg "super" = none) (tp : (P.main.scope.names.lookup ("super" : Str)).isSome = false) (sa : PySem.W.findIn K (.ref C) "__setattr__" = some (some (.builtin "object.__setattr__"))) (ii : PySem.W.findIn K (.ref C) "__init__" = some (some (.ref fI)))
    (ti : PySem.W.typeIn K (.ref fI) = some (.type "function")) (kc : PySem.W.keepIn K (.ref C) = true) (ex : PySem.W.subIn K (.ref C) (.type "BaseException") = some true) (ty : PySem.W.typeIn K (.ref C) = some (.type "type")) :
    ErrF P K mg C fI B newId initId bmB ps params body scope := by
  refine ⟨bf, obj, sf, ⟨nm, q, N, bs, .ref pr :: bmB, sn, sub, ab, col, dd, k0, k1, k2, k3, k5, lc, fun X => ?_, fun self => ?_⟩, ⟨qual, dV, kV, doc, pm, an, cda, ct, cc, oc, od, osl, vs, file, tf, ccl, cdd, ccs, cl, cld, csl, li, ei, lk, v2, fl, lcc, hb⟩, su, se, sb, op, gl, tp, sa, ii, ti, kc, ex, ty⟩
  · rw [List.contains_cons]; rfl
  · rw [refuseLoop_ref, refuseLoop_ref]; exact pass self
end L3
namespace L3
open PySem PySem.Spec PyProof.Rows L2
def k4 {α : Type} : List α → List α → List α
  | [], [w, v, u, t] => [t, u, v, w]
  | _, _ => []
end L3
namespace L3
open PySem PySem.Spec PyProof.Rows L2
/-- C.m is a static method: its record at p, its def at g -/
structure SMet (K : PySem.W.Frag) (C : Addr) (mc : Value) (m : Str) (p g : Addr) : Prop where
  at_ : PySem.W.findCls K (.ref C) mc m = some (.get (.builtin "staticmethod.__get__") (.ref p) .none (.ref C))
  rc : ∃ rest, PySem.W.recIn K p "staticmethod" = some (.ref g :: rest)
  kp : PySem.W.keepIn K (.ref g) = true
/-- C.m(..), m a static method of the class at C -/
def tSMeth (C : Addr) (sp : Sp) (E : XK) (tc : TE) (ts : TA) : TE := fun σ H Q => tc σ H fun x H1 => x = .ref C ∧ ts σ H1 fun vs H2 => sp vs H2 Q E
section
variable {X : Cx} {CX : CXT} {k : Nat} {C p g : Addr} {mc : Value} {sp : Sp} {E : XK} {o e : Expr} {es : List Expr} {m : Str} {pos apos : Pos} {ta : TE} {t tk : TA} {pl : Sem Bool} {fd : FuncData} {ps ks : List Str} {kws : List Keyword} {gg : List Value → List Value → List Value} {gV : List V → List V → List V}
theorem sm_meth {pins : List (Addr × Obj)} {σ : L2.St} {H : Hp} {s : Shared} {A : Around} {EE : Value → Shared → Prop} {QQ : Value × List Value → Shared → Prop} (I : L2.Inv X pins σ H s) (r : ClX.CRead X.K C mc) (c : SMet X.K C mc m p g) (h : ∀ s', L2.Inv X pins σ H s' → QQ (.ref g, []) s') :
    wpAny (model X.prog X.w) A (getMethod (.ref C) m pl) QQ EE s := by
  obtain ⟨rest, hp⟩ := c.rc
  refine PySem.W.method_cls I.kIn r.ga (PySem.W.cls_bind I.kIn r.rd c.at_ (wpAny_call ?_))
  exact PySem.W.sm_get (s := { s with toks := s.toks + 1 }) I.kIn hp (PySem.W.handed_on rfl (h _ (I.tok _)))
theorem pe_smeth (hC : PE X o ta) (r : ClX.CRead X.K C mc) (c : SMet X.K C mc m p g) (F : FnOk X.prog X.w X.K X.mg X.base CX k g fd ps sp) (room : Room k X.A) (hb : L2.Binds X.K fd ps []) (hx : Passes CX X E) (hargs : PA X (e :: es) t)
    (hs1 : starEach (e :: es) X.env = (false, eval e X.env) :: starEach es X.env := by rfl) (hp1 : (backTo pos (starEach es X.env)).any (·.1) = false := by rfl)
    (hev : eval (.Call (.Attribute o m apos) (e :: es) [] pos) X.env = (do
      let ob ← eval o X.env
      standAt apos.atName
      let (fn, fst) ← holding [ob] (getMethod ob m pl)
      callWith pos fn fst (backTo pos (starEach (e :: es) X.env)) (backToKw pos (keywordEach [] X.env))) := by rfl) :
    PE X (.Call (.Attribute o m apos) (e :: es) [] pos) (tSMeth C sp E ta t) := by
  refine ⟨fun pins s σ H Q I h => PySem.W.methodCall_KW (pl := pl) (thn (hC.run pins s σ H _ I h) fun u s1 ⟨x, H1, I1, rx, ex, q⟩ => ?_) hev⟩
  subst ex
  obtain rfl : u = Value.ref C := rx
  refine sm_meth I1 r c fun s2 I2 => ?_
  refine PySem.W.callWith_K (h₀ := X.base) I.ok.mod.kin c.kp (thn (hargs.run pos pins s2 σ H1 _ I2 q) fun us s3 ⟨vs, H2, I3, rv, q2⟩ => ⟨I3.kIn, ?_⟩) hs1 hp1
  exact run_fn (vs := vs) (dvs := []) F room hb .nil hx I3 rv (by rw [List.append_nil]; exact q2)
end
def s3 {α : Type} : List α → List α → List α
  | [], [w, v, u] => [u, v, w]
  | _, _ => []
def n3 {α : Type} : List α → List α → List α
  | [s], [w, v, u] => [s, v, u, w]
  | _, _ => []
theorem kit_sub {K : PySem.W.Frag} {C D : Addr} (hd : PySem.W.hasDictIn K D = true) (ht : PySem.W.typeIn K (.ref D) = some (.type "type")) (h : PySem.W.subIn K (.ref C) (.ref D) = some true) : PySem.W.kitOne K (.ref C) (.ref D) = some true := by
  unfold PySem.W.kitOne
  split
  · rfl
  · obtain ⟨cd, hc, _⟩ := PySem.W.any_some hd
    show (if ((PySem.W.clsIn K D).isSome && PySem.W.typeIn K (.ref D) == some (.type "type")) = true then _ else _) = _
    rw [hc, ht, if_pos (by simp)]
    exact h
theorem kit_tyX {K : PySem.W.Frag} {C : Addr} {T : String} (h : PySem.W.subIn K (.ref C) (.type T) = some true) (hm : PySem.W.kitMeta T = true := by decide +kernel) : PySem.W.kitOne K (.ref C) (.type T) = some true := by
  unfold PySem.W.kitOne
  split
  · rfl
  · show (if PySem.W.kitMeta T = true then _ else _) = _
    rw [if_pos hm]
    exact h
section
variable {prog : Program} {w : World} {A : Around} {E : Value → Shared → Prop} {s : Shared} {K : PySem.W.Frag} {x D : Addr} {ox od : Obj}
theorem exc_class {Q : Option Value → Shared → Prop} (C : ExcC K D) (X : K.In s.heap) (I : PySem.W.InstAt s.heap x ox D (some od)) (h : Q (some (.ref D)) { s with toks := s.toks + 1 }) : wpAny (model prog w) A (getAttr? (.ref x) "__class__") Q E s := by
  have hf : PySem.W.findObj K D (some od) "__class__" = some (.bind (.builtin "getset_descriptor.__get__") (.builtin "object.__class__")) := PySem.W.findObj_data (by obtain ⟨cd, hc, _⟩ := PySem.W.any_some C.hd; rw [hc]; rfl) C.ha C.hn C.ht
  obtain ⟨hp, g, d, t, os⟩ := s
  have lT := I.type (M := model prog w)
  have lG := PySem.W.looks_findIn (M := model prog w) X C.hg
  have lK := PySem.W.looks_findIn (M := model prog w) X C.hk
  have lF := PySem.W.looks_find (M := model prog w) X I hf
  have isB : PySem.W.Looks (model prog w) hp (isInstance (.ref x) (.type "BaseException")) true := lT.andThen (PySem.W.looks_subIn X C.hs)
  have b0 : (false && onTheHeap (Value.builtin "BaseException.__getattribute__")) = false := rfl
  have b2 : (Value.builtin "BaseException.__getattribute__" == Value.builtin "object.__getattribute__") = false := by decide +kernel
  have b1 : (onTheHeap (Value.ref D) && Value.builtin "BaseException.__getattribute__" == Value.builtin "object.__getattribute__") = false := by rw [b2]; rfl
  unfold getAttr? getAttrBy? getAttrBy
  refine wpAny_bind (wpAny_mkText (wpAny_bind (wpAny_attempt (wpAny_holding (wpAny_bind (lT.at (wpAny_bind (lG.at ?_))))))))
  show wpAny _ _ (if (onTheHeap (Value.ref D) && Value.builtin "BaseException.__getattribute__" == Value.builtin "object.__getattribute__") = true then _ else _) _ _ _
  rw [b1, if_neg Bool.false_ne_true]
  unfold getAttrByItsOwn hookBefore
  refine wpAny_bind ?_
  rw [if_pos (show onTheHeap (Value.ref D) = true from rfl)]
  refine lK.at (wpAny_bind (wpAny_attempt (wpAny_holding ?_)))
  unfold callGetattribute
  rw [b0, if_neg Bool.false_ne_true]
  unfold boundAndCalled
  rw [PySem.F.excAttr_ValueError.ga.bind (.ref x)]
  refine wpAny_bind (wpAny_pure ?_)
  show wpAny _ _ (call (.builtin "BaseException.__getattribute__") [.ref x, .str "__class__" t]) _ _ _
  refine wpAny_call (codeAny_call_builtin PySem.F.excAttr_ValueError.ga.plain PySem.F.entry_bexc_ga ?_)
  refine @PySem.W.check_slot (model prog w) _ _ ⟨hp, g, d, t + 1, os⟩ "BaseException.__getattribute__" "BaseException" "__getattribute__" (.ref x) [.str "__class__" t] [] _ (by decide +kernel) (by decide +kernel) isB (PySem.F.args_bexc_ga (.ref x) (.str "__class__" t)) ?_
  unfold Builtin.«object.__getattribute__»
  refine wpAny_bind (wpAny_of_eq (a := ((Value.ref x : Value), [Value.str "__class__" t])) (by first | rfl | (simp only [slotArgs]; rfl)) ?_)
  refine wpAny_bind (wpAny_pure (wpAny_bind (lT.at (wpAny_bind (lF.at ?_)))))
  show wpAny _ _ (holding [Value.builtin "object.__class__"] (call (.builtin "getset_descriptor.__get__") [.builtin "object.__class__", .ref x, .ref D]) >>= ret) _ _ _
  refine wpAny_bind (wpAny_holding (wpAny_call (PySem.W.class_get (s := ⟨hp, g, d, t + 1, os⟩) (ox := ox) (od := some od) X I C.hm ?_)))
  refine wpAny_pure ?_
  show wpAny _ _ (handedOut (.ref D)) _ _ _
  rw [PySem.W.handedOut_of (v := .ref D) rfl]
  first
    | exact wpAny_pure (wpAny_pure h)
    | exact wpAny_pure h
    | exact wpAny_pure (wpAny_bind (wpAny_pure (wpAny_pure h)))
theorem kitx_excD (C : ExcC K D) : PySem.W.KitX K (.ref x) (.ref D) (fun h => PySem.W.InstAt h x ox D (some od)) where
  ty := fun _ _ _ I => I.type
  it := fun _ _ X _ => by
    obtain ⟨cdD, hcD, _⟩ := PySem.W.any_some C.hd
    unfold PySem.W.clsIn at hcD
    split at hcD
    · rename_i c1 d1 cd1 sl1 ho
      intro A1 Q1 E1 s1 k q
      unfold isType loadHead
      exact wpAny_bind (wpAny_loadPart (k _ _ (X _ _ ho)) (wpAny_pure q))
    · cases hcD
  ne := fun h tp dd its n sl X htp => by
    obtain ⟨cdD, hcD, _⟩ := PySem.W.any_some C.hd
    refine Bool.eq_false_iff.mpr fun q => ?_
    have e : D = tp := Value.ref.inj (beq_iff_eq.mp q)
    subst e
    unfold PySem.W.clsIn at hcD
    split at hcD
    · rename_i c1 d1 cd1 sl1 ho
      have z := (X _ _ ho).symm.trans htp
      cases z
    · cases hcD
  ca := fun X I k => exc_class C X I k
end
/-- isinstance(e, c), e the error that the suite holds, its fields at dd -/
def rIsD (K : PySem.W.Frag) (cls : Value) (d : Option Addr) (D a : Addr) : List V → Hp → VK → Prop := fun xs H Q => ∃ (c : V) (cv : Value) (b : Bool) (dd : Addr) (fs : List (Str × V)), xs = [.ref a, c] ∧ cls = .ref D ∧ d = some dd ∧ H dd = some (.xd fs) ∧ (∀ u, RelV c u → u = cv) ∧ PySem.W.kitOne K (.ref D) cv = some b ∧ Q (.bl b) H
theorem call_isD {X : Cx} {a D : Addr} {oe : Obj} {cls : Value} {d : Option Addr} {pn : List (Addr × Obj)} (C : ExcC X.K D) (hz : Zc cls d oe) (hf : ∃ vs, oe.data = .fields vs) : CallR (X.suite a ((a, oe) :: pn)) (.builtin "isinstance") (rIsD X.K cls d D a) := by
  intro pins s σ H xs us Q I r h
  obtain ⟨c, cv, b, dd, fs, rfl, rfl, rfl, ea, hcv, e, q⟩ := h
  match us, r with
  | [_, _], .cons rx (.cons rt .nil) =>
    cases rx
    have ec := hcv _ rt
    subst ec
    obtain ⟨hget, _⟩ := I.pin (a, oe) (List.mem_append.mpr (.inl List.mem_cons_self))
    obtain ⟨vs, hv⟩ := hf
    have hx : ObjOk X.prog X.w H s.heap dd (.xd fs) := I.hok dd _ ea
    obtain ⟨mA, hns, hr⟩ := hx
    obtain ⟨od, ho, hl⟩ := lookIn_ns hns
    have J : PySem.W.InstAt s.heap a oe D (some od) := ⟨hget, hz.1, by unfold PySem.W.notCls; rw [hv] <;> rfl, by rw [hz.2]; exact ho⟩
    exact PySem.W.kia_one (kitx_excD C) I.kIn J e (fun z => nomatch z) fun tk => ⟨.bl b, H, I.kept (t' := tk) fun _ _ z => z, rfl, q⟩
end L3
namespace L3
open PySem PySem.Spec PyProof.Rows L2 LamX
/-- the context of the def at g that got the lambda, entered at s from X -/
abbrev gCx (X : Cx) (N : List Str) (q : Str) (sg : Scope) (g : Addr) (cd : Value) (s : Shared) (H : Hp) : Cx := cxOf C8.CX0 X.prog X.w X.K X.mg X.base N q sg g cd X.A X.stack s H C8.E0
/-- a() in that def, a its first slot: the lambda's body is read at the slots σ where it was made; its errors go to the def's W at its own slots -/
theorem pe_lam_run {X : Cx} {pins : List (Addr × Obj)} {σ : L2.St} {H : Hp} {s : Shared} {N : List Str} {q a : Str} {sg scope : Scope} {g f c' : Addr} {cd pm ctv : Value} {params : Arguments} {body : Expr} {k : Nat} {pn : List (Addr × Obj)} {xe : Value → Shared → Prop} {W : WX} {tb : XK → TE} {p1 p2 : Pos}
    (I : L2.Inv X pins σ H s) (L : LamS X.env.scope scope) (hf : s.heap.get? f = some (PySem.W.kla_obj "<lambda>" (X.env.qual ++ "<lambda>") params body scope (cloFrom X.env.cells scope.names []) pm c' ctv)) (fNone : H f = none) (fFr : f ∉ frs X.stack)
    (hbind : bindArgs (PySem.W.kla_fn "<lambda>" (X.env.qual ++ "<lambda>") params body scope (cloFrom X.env.cells scope.names []) pm (.ref c') ctv) ⟨[], []⟩ = pure [])
    (take : Takes ((gCx X N q sg g cd s H).tr pn xe) W) (room : Room (k + 1) (X.A.deeper (envOfC q sg s.heap.objs.size g cd)))
    (hb : ∀ (A : Around) (outer : List Env) (s : Shared) (H : Hp) (E : XK), Room k (A.deeper (lamEnv X scope s.heap.objs.size f c')) → PE (lamCx X A outer s H E scope f c') body (tb E))
    (hN : N[0]? = some a) (hv : Vis sg a) (hd : (a == ("__debug__" : Str)) = false := by decide) (hcd : (a == ("__classdict__" : Str)) = false := by decide) :
    PE ((gCx X N q sg g cd s H).tr pn xe) (.Call (.Name a p1) [] [] p2) (fun τ HZ Q => τ[0]? = some (some (.ref f)) ∧ HZ c' = some (CodeO c' (X.env.qual ++ "<lambda>")) ∧ tb (WE W τ) σ HZ Q) := by
  refine ⟨fun pinsZ sZ τ HZ Q IZ h => ?_⟩
  obtain ⟨hs, hc, ht⟩ := h
  refine wpAny_Call_Name_kw (thn ((pe_var (pos := p1) (i := 0) hN hv hd hcd).run pinsZ sZ τ HZ (fun v H1 => v = .ref f ∧ H1 = HZ) IZ ⟨.ref f, hs, rfl, rfl⟩) fun u s1 ⟨v, H1, I1, r1, ev, eH⟩ => ?_)
  subst ev eH
  obtain rfl : u = Value.ref f := r1
  have atF : s1.heap.get? f = some (PySem.W.kla_obj "<lambda>" (X.env.qual ++ "<lambda>") params body scope (cloFrom X.env.cells scope.names []) pm c' ctv) := I1.base.keep f _ hf fNone fFr (fun z => nomatch (show f ∈ ([] : List Addr) from z))
  have un : Un (frs X.stack) [] H H1 s.heap s1.heap := I1.base
  obtain ⟨⟨oc, vs, t, hoc, hdc, hvc⟩, _, _⟩ := I1.hok c' _ hc
  have run : codeAny (model X.prog X.w) (X.A.deeper (envOfC q sg s.heap.objs.size g cd)) (.call (.ref f) ⟨[], []⟩) (CR (L2.CX X.prog X.w) (envOfC q sg s.heap.objs.size g cd :: X.stack) X.prog X.w H1 s1 Q (WE W τ)) s1 := by
    refine PySem.W.kla_callFunE room.depth atF rfl L.co L.gen rfl ⟨c', oc, vs, t, rfl, hoc, hdc, hvc⟩ ?_
    rw [hbind]
    refine wpAny_pure (wpAny_newFunctionEnv (fun y hy => (L.own y hy).2) (fun y hy => absurd hy (by simp)) (fun h₁ hns hsb => ⟨I1.nolimit.fresh _ hsb, ?_⟩) L.kind)
    show codeAny _ _ (.expr body (lamEnv X scope s1.heap.objs.size f c')) _ _
    have kp : ∀ b o, s1.heap.get? b = some o → h₁.get? b = some o := fun b o e => hsb.extBut b o (Nat.ne_of_lt (Heap.lt_size e)) (Heap.get?_push_of_some _ e)
    have J : L2.Inv (lamCx X (X.A.deeper (envOfC q sg s.heap.objs.size g cd)) (envOfC q sg s.heap.objs.size g cd :: X.stack) s1 H1 (WE W τ) scope f c') [] σ H1 { s1 with heap := h₁, toks := s1.toks + ([] : List (Str × Value)).length } := lam_start2 I L I1.env0 room.hd un hns kp
    refine PySem.W.kla_codeExpr (wpAny_mono ((hb _ _ s1 H1 (WE W τ) (room.deeper _)).run [] _ _ H1 Q J ht) (fun v s' ⟨w', H', J', rv, z⟩ => ?_) fun e s' z => z)
    exact ⟨w', H', J'.os, J'.bare, J'.base, J'.hok, rv, z⟩
  refine PySem.W.callWith_F0 ⟨_, _, _, _, atF⟩ (wpAny_call (codeAny_mono run fun r s' z => ?_))
  match r, z with
  | .error e, z => exact passAt take τ pinsZ H1 s1 e s' I1 z
  | .ok (.ret u), z => exact I1.after z
/-- the def calls what it got: TT: what it makes of the lambda's reading -/
def GivesS (k : Nat) (X : Cx) (N : List Str) (x : Str) (sg : Scope) (g : Addr) (cd : Value) (bg : List Stmt) (a : Str) (q : Str) (TT : (XK → Hp → VK → Prop) → Hp → VK → Prop) : Prop :=
  ∀ (f c' : Addr) (s : Shared) (H : Hp) (Q : VK) (tl : XK → Hp → VK → Prop), Room (k + 1) (X.A.deeper (envOfC x sg s.heap.objs.size g cd)) →
    (∀ (W : WX) (pn : List (Addr × Obj)) (xe : Value → Shared → Prop) (p1 p2 : Pos), Takes ((gCx X N x sg g cd s H).tr pn xe) W →
      PE ((gCx X N x sg g cd s H).tr pn xe) (.Call (.Name a p1) [] [] p2) (fun τ HZ Q => τ[0]? = some (some (.ref f)) ∧ HZ c' = some (CodeO c' q) ∧ tl (WE W τ) HZ Q)) →
    H c' = some (CodeO c' q) → TT tl H Q →
    ∃ t, PSs (gCx X N x sg g cd s H).nox bg t ∧ t { nx := fun _ H' => Q .non H', rt := Q } (L2.start N [.ref f]) H
/-- x(lambda: body) -/
theorem pe_lamS {X : Cx} {T : List (Addr × Str)} {TT : (XK → Hp → VK → Prop) → Hp → VK → Prop} {x a : Str} {g c P : Addr} {k : Nat} {st : Stmt} {fd : FuncData} {N : List Str} {params : Arguments} {body : Expr} {scope : Scope} {t : XK → TE} {p lpos pos : Pos}
    (hg : Gl X x) (hm : X.mg x = some (.ref g)) (F : Fun X.K x x st g fd) (hb : L2.Binds X.K fd [a] []) (S : FnScope N [a] (defScope st)) (hN : N[0]? = some a) (hv : Vis (defScope st) a)
    (hG : ∀ cdv, GivesS k X N x (defScope st) g cdv (defBody st) a (X.env.qual ++ "<lambda>") TT)
    (TB : TabB X.base X.mg c P) (hcode : X.env.code = .ref c) (hmT : (P, X.env.qual ++ "<lambda>") ∈ T) (hu : ∀ p ∈ T, p.1 = P → p.2 = X.env.qual ++ "<lambda>") (room : Room (k + 2) X.A) (L : LamS X.env.scope scope) (hdef : defaultsOf params X.env = ([], []))
    (hbind : ∀ (q : Str) (cl : List (Str × Addr)) (pm cv ctv : Value), bindArgs (PySem.W.kla_fn "<lambda>" q params body scope cl pm cv ctv) ⟨[], []⟩ = pure [])
    (hbody : ∀ (A : Around) (outer : List Env) (s : Shared) (H : Hp) (E : XK) (f c' : Addr), Room k (A.deeper (lamEnv X scope s.heap.objs.size f c')) → PE (lamCx X A outer s H E scope f c') body (t E))
    (hdb : (x == ("__debug__" : Str)) = false := by decide) (hd : (a == ("__debug__" : Str)) = false := by decide) (hcd : (a == ("__classdict__" : Str)) = false := by decide) :
    PE X (.Call (.Name x p) [.Lambda params body scope lpos] [] pos) (tLam T TT t) := by
  refine ⟨fun pins s σ H Q I h => ?_⟩
  obtain ⟨hT, h⟩ := h
  obtain ⟨oc, od, kV, doc, pm0, an, cdv, ct, osl, efd, lk, hcg⟩ := F.ex
  refine wpAny_Call_Name_kw (ld_glob I hg hm ?_ hdb)
  refine PySem.W.callWith_K (h₀ := X.base) I.ok.mod.kin F.kp ?_ (by rfl) (by rfl)
  show wpAny _ _ (spliced ((false, eval (.Lambda params body scope lpos) X.env) :: backTo pos (starEach [] X.env))) _ _ s
  refine Calls.spliced_cons (lam_make2 I TB hcode hmT hu hT hdef (L.has I.ok) fun f c' pm' ctv H1 s' I1 eN T1 hf hfn hfr hco => ?_)
  refine Calls.spliced_nil ⟨I1.kIn, ?_⟩
  have rc : codeAny (model X.prog X.w) X.A (.call (.ref g) ⟨[.ref f], []⟩) (CR C8.CX0 X.stack X.prog X.w H1 s' Q C8.E0) s' := by
    subst efd
    refine run_ofS (N := N) (ps := [a]) (us := [.ref f]) (vs := [.ref f]) (k := k + 1) lk hcg S room I1.env0 (hb s' [.ref f] I1.kIn rfl) (.cons rfl .nil) rfl fun room' => ?_
    obtain ⟨t', ht', hq'⟩ := hG cdv f c' s' H1 Q (fun E H' Q' => t E σ H' Q') room' (fun W pn xe p1 p2 tk => pe_lam_run (k := k) I1 L hf hfn hfr (hbind _ _ _ _ _) tk room' (fun A outer s H E hr2 => hbody A outer s H E f c' hr2) hN hv hd hcd) hco (h H1 eN T1)
    exact ⟨t', ht'.nox, hq'⟩
  refine wpAny_call (codeAny_mono rc fun r s2 hq => ?_)
  match r, hq with
  | .error e, hq => exact (show False from hq).elim
  | .ok (.ret u), hq => exact I1.after hq
end L3
namespace L3
open PySem PySem.Spec PyProof.Rows L2
end L3
namespace L3
open PySem PySem.Spec PyProof.Rows L2 LamX NdefX
/-- the function at f is F, its code object stands -/
def FnAt2 (f : Addr) (F : NF) (H : Hp) : Prop := H f = some (FnO f F) ∧ H F.c = some (CodeO F.c F.qual)
theorem FnAt2.same {f : Addr} {F : NF} {H H' : Hp} (s : Same H H') (h : FnAt2 f F H) : FnAt2 f F H' := ⟨s _ _ h.1, s _ _ h.2⟩
end L3
namespace L3
open PySem PySem.Spec PyProof.Rows L2 Builtin Builtin.ObjectAttr
end L3
namespace L3
open PySem PySem.Spec PyProof.Rows L2 Builtin Builtin.ObjectAttr
end L3
namespace L3
open PySem PySem.Spec PyProof.Rows L2
end L3
namespace L3
open PySem PySem.Spec PyProof.Rows L2
/-- a clause: the class it names, the slot of its name, what its suite does -/
structure Cls1 where
  c : Value
  slot : Option Nat
  ts : Addr → Value → Option Addr → TS
def Cls1.ends (k : Cls1) (D : Ends) : Ends := match k.slot with
  | none => D
  | some i => ⟨fun τ G => D.nx (τ.set i none) G, D.rt, fun τ G => D.bk (τ.set i none) G, fun τ G => D.ct (τ.set i none) G⟩
def Cls1.start (k : Cls1) (a : Addr) (σ : L2.St) : L2.St := match k.slot with
  | none => σ
  | some i => σ.set i (some (.ref a))
/-- what the clauses wish of an error of the body -/
def wMix (K : PySem.W.Frag) (Wout : WX) (D : Ends) : List Cls1 → WX
  | [] => Wout
  | k :: r => fun cls d σ H => ∃ b, PySem.W.exmOne K cls k.c = some b ∧ (b = true → ∀ a, H a = none → k.ts a cls d (k.ends D) (k.start a σ) H) ∧ (b = false → wMix K Wout D r cls d σ H)
/-- a suite that holds an error -/
def SuOk (X : Cx) (b₀ : Stmt) (su : List Stmt) (ts : Addr → Value → Option Addr → TS) : Prop := ∀ (a : Addr) (oe : Obj) (cls : Value) (d : Option Addr) (pn : List (Addr × Obj)), Zc cls d oe → (∃ vs, oe.data = .fields vs) → PSs (X.suite a ((a, oe) :: pn)) (b₀ :: su) (ts a cls d)
inductive MixOk (X : Cx) : List ExceptHandler → List Cls1 → Prop
  | nil : MixOk X [] []
  | bare {x : Str} {c : Value} {ts : Addr → Value → Option Addr → TS} {b₀ : Stmt} {su : List Stmt} {p1 p2 : Pos} {hs : List ExceptHandler} {l : List Cls1} : Names X x c → SuOk X b₀ su ts → MixOk X hs l → MixOk X (.ExceptHandler (some (.Name x p1)) none (b₀ :: su) p2 :: hs) (⟨c, none, ts⟩ :: l)
  | named {x n : Str} {i : Nat} {c : Value} {ts : Addr → Value → Option Addr → TS} {b₀ : Stmt} {su : List Stmt} {p1 p2 : Pos} {hs : List ExceptHandler} {l : List Cls1} : Names X x c → X.N[i]? = some n → X.env.kindOf n = some .local → SuOk X b₀ su ts → MixOk X hs l → MixOk X (.ExceptHandler (some (.Name x p1)) (some n) (b₀ :: su) p2 :: hs) (⟨c, some i, ts⟩ :: l)
section
variable {X : Cx} {pins : List (Addr × Obj)} {σ : L2.St} {H : Hp} {a : Addr} {cls : Value} {d : Option Addr} {B g : Heap} {sI s : Shared}
/-- an error that flies over this frame -/
structure Fly (X : Cx) (pins : List (Addr × Obj)) (σ : L2.St) (H : Hp) (a : Addr) (cls : Value) (d : Option Addr) (B : Heap) (sI s : Shared) (g : Heap) : Prop where
  J : L2.Inv X pins σ H sI
  nb : ∀ b o, sI.heap.get? b = some o → b ∉ frs X.stack → B.get? b = some o
  up : sI.heap.UpToSlots g
  fl : HandSPX.FlyingZ B (X.env :: X.outer) a (Zc cls d) g
  na : H a = none
  os : s.os = sI.os
  ag : AllBare s.gens
theorem Fly.inv (F : Fly X pins σ H a cls d B sI s g) : L2.Inv X pins σ H { s with heap := g } := F.J.landed F.nb F.fl.1 F.up F.os F.ag
theorem Fly.suite (F : Fly X pins σ H a cls d B sI s g) (hf : X.env.frame = some X.env.locals) : ∃ (oe : Obj) (vs : Array Value), g.get? a = some oe ∧ Zc cls d oe ∧ oe.data = .fields vs ∧ L2.Inv (X.suite a ((a, oe) :: (X.pn ++ pins))) [] σ H { s with heap := g } := by
  obtain ⟨oe, vs, h1, h2, h3⟩ := F.fl.there
  have out : a ∉ frs (X.env :: X.outer) := fun m => by
    obtain ⟨_, u, e, no⟩ := F.fl.2.2.1.mem m
    rw [h1] at e
    cases e
    exact no _ h3
  refine ⟨oe, vs, h1, h2, h3, F.inv.suite h1 h3 F.na (fun z => out ?_) fun m => out ?_⟩
  · exact List.mem_filterMap.mpr ⟨_, List.mem_cons_self, by rw [hf, z]⟩
  · obtain ⟨v, m1, m2⟩ := List.mem_filterMap.mp m
    exact List.mem_filterMap.mpr ⟨v, List.mem_cons_of_mem _ m1, m2⟩
/-- the class of a clause is asked -/
theorem Fly.asked (F : Fly X pins σ H a cls d B sI s g) (hf : X.env.frame = some X.env.locals) {x : Str} {c : Value} {b : Bool} {p1 : Pos} (hc : Names X x c) (hb : PySem.W.exmOne X.K cls c = some b) {M : Value → Shared → Prop} {E : Value → Shared → Prop} (k : M c { s with heap := g }) :
    wpAny (model X.prog X.w) (X.A.mark (some (.ref a))) (eval (.Name x p1) X.env) M E { s with heap := g } := by
  obtain ⟨oe, vs, h1, h2, h3, S⟩ := F.suite hf
  obtain ⟨n1, n2, m | ⟨m, n3, n4⟩⟩ := hc
  · exact ld_glob (X := X.suite a ((a, oe) :: (X.pn ++ pins))) S n1 m k n2
  · exact ld_blt (X := X.suite a ((a, oe) :: (X.pn ++ pins))) S n1 m n3 k n4 n2
theorem Fly.match_ (F : Fly X pins σ H a cls d B sI s g) {c : Value} {b : Bool} (hb : PySem.W.exmOne X.K cls c = some b) : PySem.W.Looks (model X.prog X.w) g (excMatches (.ref a) c) b := by
  obtain ⟨oe, vs, h1, h2, h3⟩ := F.fl.there
  refine PySem.W.exm_one F.inv.kIn (fun A' M' E' s1 k q => ?_) hb
  refine wpAny_typeOf_ref (k _ _ h1) ?_
  rw [h2.1]
  exact q
/-- on from here, the frame's flight noted again -/
theorem Fly.on (F : Fly X pins σ H a cls d B sI s g) {g' : Heap} (f : HandSPX.FlyingZ B (X.env :: X.outer) a (Zc cls d) g') (u : g.UpToSlots g') : Fly X pins σ H a cls d B sI s g' := ⟨F.J, F.nb, F.up.trans u, f, F.na, F.os, F.ag⟩
variable {D : Ends} {Wout : WX} {hs : List ExceptHandler} {x n : Str} {i : Nat} {c : Value} {ts : Addr → Value → Option Addr → TS} {b₀ : Stmt} {su : List Stmt} {p1 p2 : Pos} {b : Bool}
/-- no clause is left -/
theorem Fly.out (F : Fly X pins σ H a cls d B sI s g) (st : X.stack = X.env :: X.outer) (hf : X.env.frame = some X.env.locals) (tk : Takes X Wout) (w : Wout cls d σ H) :
    wpAny (model X.prog X.w) X.A (handleBy (.ref a) X.env []) (SP X pins D) X.xe { s with heap := g } := by
  have throw_ : wpAny (model X.prog X.w) X.A (setFlight (.ref a) X.env.frame) (fun _ s4 => wpAny (model X.prog X.w) X.A (throw (.ref a) : Sem Flow) (SP X pins D) X.xe s4) X.xe { s with heap := g } := by
    rw [hf]
    refine HandSPX.setFlight_upZ F.fl fun g4 sk u4 => ?_
    refine wpAny_throw (tk _ _ ⟨a, B, sI, pins, σ, H, cls, d, rfl, F.J, F.nb, F.up.trans u4, .inr (.inr ?_), F.na, F.os, F.ag, w⟩)
    rw [st]
    exact sk
  obtain ⟨_, _, _, oe, vs, tb, _, _, e1, _, e3, e4, _⟩ := id F.fl
  have ne : ¬ ((Value.ref tb == Value.none) = true) := by simp
  refine wpAny_handleBy_nil ?_
  unfold PySem.passOn
  refine wpAny_bind (wpAny_field e1 e3 e4 ?_)
  rw [if_neg ne]
  first
    | exact wpAny_bind throw_
    | exact wpAny_bind (wpAny_pure (wpAny_bind throw_))
/-- a clause without a name -/
theorem Fly.bare (F : Fly X pins σ H a cls d B sI s g) (hf : X.env.frame = some X.env.locals) (hc : Names X x c) (hsu : SuOk X b₀ su ts) (hb : PySem.W.exmOne X.K cls c = some b) (yes : b = true → ts a cls d D σ H)
    (no : b = false → wpAny (model X.prog X.w) X.A (handleBy (.ref a) X.env hs) (SP X pins D) X.xe { s with heap := g }) :
    wpAny (model X.prog X.w) X.A (handleBy (.ref a) X.env (.ExceptHandler (some (.Name x p1)) none (b₀ :: su) p2 :: hs)) (SP X pins D) X.xe { s with heap := g } := by
  refine wpAny_handleBy_cons (codeAny_handlers_test (F.asked hf hc hb ((F.match_ hb).here ?_))) fun q => nomatch q
  cases b with
  | false => exact no rfl
  | true =>
    refine codeAny_handlers_suite (HandSPX.lands_againZ F.fl fun g4 f4 u4 => ?_)
    have F4 := F.on f4 u4
    have ok := F.J.ok
    obtain ⟨oe, vs, _, z, e3, S⟩ := F4.suite hf
    refine wpAny_mono ((hsu a oe cls d (X.pn ++ pins) z ⟨_, e3⟩).run [] _ _ H _ S (yes rfl)) (fun fl s6 r => ?_) (fun _ _ z => z.elim)
    cases fl with
    | next => obtain ⟨τ, G, S6, q6⟩ := r; exact ⟨τ, G, S6.unsuite ok, q6⟩
    | brk => obtain ⟨τ, G, S6, q6⟩ := r; exact ⟨τ, G, S6.unsuite ok, q6⟩
    | cont => obtain ⟨τ, G, S6, q6⟩ := r; exact ⟨τ, G, S6.unsuite ok, q6⟩
    | ret u => obtain ⟨y, τ, G, S6, ry, q6⟩ := r; exact ⟨y, τ, G, S6.unsuite ok, ry, q6⟩
/-- a clause with a name -/
theorem Fly.named (F : Fly X pins σ H a cls d B sI s g) (hf : X.env.frame = some X.env.locals) (nd : X.N.Nodup) (hc : Names X x c) (hi : X.N[i]? = some n) (hn : X.env.kindOf n = some .local) (hsu : SuOk X b₀ su ts) (hb : PySem.W.exmOne X.K cls c = some b)
    (yes : b = true → ts a cls d ((⟨c, some i, ts⟩ : Cls1).ends D) (σ.set i (some (.ref a))) H)
    (no : b = false → wpAny (model X.prog X.w) X.A (handleBy (.ref a) X.env hs) (SP X pins D) X.xe { s with heap := g }) :
    wpAny (model X.prog X.w) X.A (handleBy (.ref a) X.env (.ExceptHandler (some (.Name x p1)) (some n) (b₀ :: su) p2 :: hs)) (SP X pins D) X.xe { s with heap := g } := by
  refine wpAny_handleBy_cons (codeAny_handlers_test (F.asked hf hc hb ((F.match_ hb).here ?_))) fun q => nomatch q
  cases b with
  | false => exact no rfl
  | true =>
    refine codeAny_handlers_suite_as (HandSPX.lands_againZ F.fl fun g4 f4 u4 => ?_)
    have F4 := F.on f4 u4
    have ok := F.J.ok
    obtain ⟨oe, vs, _, z, e3, S⟩ := F4.suite hf
    refine store_ok (X := X.suite a ((a, oe) :: (X.pn ++ pins))) (v := .ref a) S nd hi (.inl hn) rfl (fun s5 S5 => ?_) (.inr hn)
    refine wpAny_mono ((hsu a oe cls d (X.pn ++ pins) z ⟨_, e3⟩).run [] s5 _ H _ S5 (yes rfl)) (fun fl s6 r => ?_) (fun _ _ z => z.elim)
    cases fl with
    | next => obtain ⟨τ, G, S6, q6⟩ := r; exact gone_ok (S6.unsuite ok) nd hi hn fun s7 J7 => ⟨_, _, J7, q6⟩
    | brk => obtain ⟨τ, G, S6, q6⟩ := r; exact gone_ok (S6.unsuite ok) nd hi hn fun s7 J7 => ⟨_, _, J7, q6⟩
    | cont => obtain ⟨τ, G, S6, q6⟩ := r; exact gone_ok (S6.unsuite ok) nd hi hn fun s7 J7 => ⟨_, _, J7, q6⟩
    | ret u => obtain ⟨y, τ, G, S6, ry, q6⟩ := r; exact gone_ok (S6.unsuite ok) nd hi hn fun s7 J7 => ⟨_, _, _, J7, ry, q6⟩
theorem Fly.all (F : Fly X pins σ H a cls d B sI s g) (st : X.stack = X.env :: X.outer) (hf : X.env.frame = some X.env.locals) (nd : X.N.Nodup) (tk : Takes X Wout) : ∀ {hs : List ExceptHandler} {l : List Cls1}, MixOk X hs l → wMix X.K Wout D l cls d σ H →
    wpAny (model X.prog X.w) X.A (handleBy (.ref a) X.env hs) (SP X pins D) X.xe { s with heap := g }
  | _, _, .nil, w => F.out st hf tk w
  | _, _, .bare hc hsu r, ⟨_, hb, yes, no⟩ => F.bare hf hc hsu hb (fun e => yes e a F.na) fun e => F.all st hf nd tk r (no e)
  | _, _, .named hc hi hn hsu r, ⟨_, hb, yes, no⟩ => F.named hf nd hc hi hn hsu hb (fun e => yes e a F.na) fun e => F.all st hf nd tk r (no e)
end
end L3
namespace L3
open PySem PySem.Spec PyProof.Rows L2
end L3
namespace PySem.SeqAt
open PySem.Meets PySem.MeetsSeq MeetsSeq2 MeetsSeq3 SeqRoads2
end PySem.SeqAt
namespace L3
open PySem PySem.Spec PyProof.Rows L2
end L3
namespace Lw
open PySem PySem.Spec PyProof.Rows L2 L3
def topS (i : Nat) : Stmt := PySem.Challenge.pw_missedparts_k91_whole_texts_of_sums.main.body.getD i (.Pass ⟨0, 0, 0, 0⟩)
abbrev s_is_list : Stmt := topS 23
abbrev s_is_text : Stmt := topS 24
abbrev s_are_letters : Stmt := topS 25
abbrev s_is_text_over : Stmt := topS 26
abbrev s_want_few : Stmt := topS 27
abbrev s_want_same : Stmt := topS 37
abbrev s_is_star : Stmt := topS 55
abbrev s_letters_in : Stmt := topS 56
abbrev s_are_rising : Stmt := topS 57
abbrev s_is_piece : Stmt := topS 58
abbrev s_is_product : Stmt := topS 59
abbrev s_is_product_over : Stmt := topS 60
abbrev s_holds : Stmt := topS 61
abbrev s_place_behind : Stmt := topS 62
abbrev s_place_by : Stmt := topS 63
abbrev s_has_text : Stmt := topS 64
abbrev s_lies_within : Stmt := topS 65
abbrev s_reduced_of : Stmt := topS 66
abbrev s_kept_of : Stmt := topS 67
abbrev s_met_behind : Stmt := topS 68
abbrev s_meet_of : Stmt := topS 69
abbrev s_sum_of : Stmt := topS 74
abbrev s_all_within : Stmt := topS 75
abbrev s_meets_of : Stmt := topS 76
abbrev s_want_letters : Stmt := topS 79
abbrev s_line_of : Stmt := topS 86
abbrev s_machine_lines : Stmt := topS 87
abbrev s_sum_lines : Stmt := topS 88
abbrev s_text_of : Stmt := topS 89
abbrev s_bytes_of : Stmt := topS 90
abbrev s_goal_of : Stmt := topS 91
abbrev s_read_by : Stmt := topS 94
abbrev s_read_machine : Stmt := topS 95
abbrev s_read_sum : Stmt := topS 96
abbrev s_law_pot : Stmt := topS 98
abbrev s_law_draw : Stmt := topS 99
abbrev s_law_pick : Stmt := topS 100
abbrev s_law_piece : Stmt := topS 101
abbrev s_law_products : Stmt := topS 102
abbrev s_law_text : Stmt := topS 103
abbrev s_law_line : Stmt := topS 104
abbrev s_law_has : Stmt := topS 105
abbrev s_law_asked_right : Stmt := topS 106
abbrev s_law_thing : Stmt := topS 107
abbrev s_law_right : Stmt := topS 108
abbrev s_law : Stmt := topS 109
theorem sc_is_list : FnScope ["value"] ["value"] (defScope s_is_list) := ⟨rfl, rfl, rfl, by decide +kernel, rfl, by decide +kernel, by decide +kernel⟩
theorem sc_is_text : FnScope ["value", "sign"] ["value"] (defScope s_is_text) := ⟨rfl, rfl, rfl, by decide +kernel, rfl, by decide +kernel, by decide +kernel⟩
theorem sc_are_letters : FnScope ["value"] ["value"] (defScope s_are_letters) := ⟨rfl, rfl, rfl, by decide +kernel, rfl, by decide +kernel, by decide +kernel⟩
theorem sc_is_text_over : FnScope ["letters", "value", "sign"] ["letters", "value"] (defScope s_is_text_over) := ⟨rfl, rfl, rfl, by decide +kernel, rfl, by decide +kernel, by decide +kernel⟩
theorem sc_want_few : FnScope ["what", "many", "limit"] ["what", "many", "limit"] (defScope s_want_few) := ⟨rfl, rfl, rfl, by decide +kernel, rfl, by decide +kernel, by decide +kernel⟩
theorem sc_want_same : FnScope ["one", "other"] ["one", "other"] (defScope s_want_same) := ⟨rfl, rfl, rfl, by decide +kernel, rfl, by decide +kernel, by decide +kernel⟩
theorem sc_is_star : FnScope ["piece"] ["piece"] (defScope s_is_star) := ⟨rfl, rfl, rfl, by decide +kernel, rfl, by decide +kernel, by decide +kernel⟩
theorem sc_letters_in : FnScope ["piece"] ["piece"] (defScope s_letters_in) := ⟨rfl, rfl, rfl, by decide +kernel, rfl, by decide +kernel, by decide +kernel⟩
theorem sc_are_rising : FnScope ["letters", "letter", "at"] ["letters"] (defScope s_are_rising) := ⟨rfl, rfl, rfl, by decide +kernel, rfl, by decide +kernel, by decide +kernel⟩
theorem sc_is_piece : FnScope ["value"] ["value"] (defScope s_is_piece) := ⟨rfl, rfl, rfl, by decide +kernel, rfl, by decide +kernel, by decide +kernel⟩
theorem sc_is_product : FnScope ["value", "piece"] ["value"] (defScope s_is_product) := ⟨rfl, rfl, rfl, by decide +kernel, rfl, by decide +kernel, by decide +kernel⟩
theorem sc_is_product_over : FnScope ["letters", "value", "piece", "letter"] ["letters", "value"] (defScope s_is_product_over) := ⟨rfl, rfl, rfl, by decide +kernel, rfl, by decide +kernel, by decide +kernel⟩
theorem sc_holds : FnScope ["piece", "other", "letter"] ["piece", "other"] (defScope s_holds) := ⟨rfl, rfl, rfl, by decide +kernel, rfl, by decide +kernel, by decide +kernel⟩
theorem sc_place_behind : FnScope ["product", "place", "piece", "at"] ["product", "place", "piece"] (defScope s_place_behind) := ⟨rfl, rfl, rfl, by decide +kernel, rfl, by decide +kernel, by decide +kernel⟩
theorem sc_place_by : FnScope ["product", "place", "pieces", "piece"] ["product", "place", "pieces"] (defScope s_place_by) := ⟨rfl, rfl, rfl, by decide +kernel, rfl, by decide +kernel, by decide +kernel⟩
theorem sc_has_text : FnScope ["product", "text"] ["product", "text"] (defScope s_has_text) := ⟨rfl, rfl, rfl, by decide +kernel, rfl, by decide +kernel, by decide +kernel⟩
theorem sc_lies_within : FnScope ["one", "other"] ["one", "other"] (defScope s_lies_within) := ⟨rfl, rfl, rfl, by decide +kernel, rfl, by decide +kernel, by decide +kernel⟩
theorem sc_reduced_of : FnScope ["product", "found", "piece"] ["product"] (defScope s_reduced_of) := ⟨rfl, rfl, rfl, by decide +kernel, rfl, by decide +kernel, by decide +kernel⟩
theorem sc_kept_of : FnScope ["products", "some", "product", "one", "other"] ["products"] (defScope s_kept_of) := ⟨rfl, rfl, rfl, by decide +kernel, rfl, by decide +kernel, by decide +kernel⟩
theorem sc_met_behind : FnScope ["one", "other", "laters", "first", "second", "common", "letter", "star", "product"] ["one", "other", "laters"] (defScope s_met_behind) := ⟨rfl, rfl, rfl, by decide +kernel, rfl, by decide +kernel, by decide +kernel⟩
theorem sc_meet_of : FnScope ["one", "other", "table", "here", "there", "steps", "laters", "step"] ["one", "other"] (defScope s_meet_of) := ⟨rfl, rfl, rfl, by decide +kernel, rfl, by decide +kernel, by decide +kernel⟩
theorem sc_sum_of : FnScope ["letters", "products"] ["letters", "products"] (defScope s_sum_of) := ⟨rfl, rfl, rfl, by decide +kernel, rfl, by decide +kernel, by decide +kernel⟩
theorem sc_all_within : FnScope ["some", "others", "other", "one"] ["some", "others"] (defScope s_all_within) := ⟨rfl, rfl, rfl, by decide +kernel, rfl, by decide +kernel, by decide +kernel⟩
theorem sc_meets_of : FnScope ["some", "others", "found", "one", "other"] ["some", "others"] (defScope s_meets_of) := ⟨rfl, rfl, rfl, by decide +kernel, rfl, by decide +kernel, by decide +kernel⟩
theorem sc_want_letters : FnScope ["letters"] ["letters"] (defScope s_want_letters) := ⟨rfl, rfl, rfl, by decide +kernel, rfl, by decide +kernel, by decide +kernel⟩
theorem sc_line_of : FnScope ["words", "word"] ["words"] (defScope s_line_of) := ⟨rfl, rfl, rfl, by decide +kernel, rfl, by decide +kernel, by decide +kernel⟩
theorem sc_sum_lines : FnScope ["entry", "found", "product"] ["entry"] (defScope s_sum_lines) := ⟨rfl, rfl, rfl, by decide +kernel, rfl, by decide +kernel, by decide +kernel⟩
theorem sc_text_of : FnScope ["entry"] ["entry"] (defScope s_text_of) := ⟨rfl, rfl, rfl, by decide +kernel, rfl, by decide +kernel, by decide +kernel⟩
theorem sc_bytes_of : FnScope ["entry"] ["entry"] (defScope s_bytes_of) := ⟨rfl, rfl, rfl, by decide +kernel, rfl, by decide +kernel, by decide +kernel⟩
theorem sc_read_by : FnScope ["reader", "written", "lines", "place", "line"] ["reader", "written"] (defScope s_read_by) := ⟨rfl, rfl, rfl, by decide +kernel, rfl, by decide +kernel, by decide +kernel⟩
theorem sc_read_machine : FnScope ["written"] ["written"] (defScope s_read_machine) := ⟨rfl, rfl, rfl, by decide +kernel, rfl, by decide +kernel, by decide +kernel⟩
theorem sc_read_sum : FnScope ["written"] ["written"] (defScope s_read_sum) := ⟨rfl, rfl, rfl, by decide +kernel, rfl, by decide +kernel, by decide +kernel⟩
theorem sc_law_pot : FnScope ["_law_script", "_law_k", "_law_cell"] ["_law_script", "_law_k"] (defScope s_law_pot) := ⟨rfl, rfl, rfl, by decide +kernel, rfl, by decide +kernel, by decide +kernel⟩
theorem sc_law_draw : FnScope ["_law_pot_here", "_law_sides", "_law_digit"] ["_law_pot_here", "_law_sides"] (defScope s_law_draw) := ⟨rfl, rfl, rfl, by decide +kernel, rfl, by decide +kernel, by decide +kernel⟩
theorem sc_law_pick : FnScope ["_law_pot_here", "_law_some"] ["_law_pot_here", "_law_some"] (defScope s_law_pick) := ⟨rfl, rfl, rfl, by decide +kernel, rfl, by decide +kernel, by decide +kernel⟩
theorem sc_law_piece : FnScope ["_law_pot_here", "_law_signs", "_law_some", "_law_sign"] ["_law_pot_here", "_law_signs"] (defScope s_law_piece) := ⟨rfl, rfl, rfl, by decide +kernel, rfl, by decide +kernel, by decide +kernel⟩
theorem sc_law_products : FnScope ["_law_pot_here", "_law_signs", "_law_found", "_law_turn", "_law_many", "_law_more"] ["_law_pot_here", "_law_signs"] (defScope s_law_products) := ⟨rfl, rfl, rfl, by decide +kernel, rfl, by decide +kernel, by decide +kernel⟩
theorem sc_law_text : FnScope ["_law_signs", "_law_products_here", "_law_lines", "_law_product", "_law_line_here"] ["_law_signs", "_law_products_here"] (defScope s_law_text) := ⟨rfl, rfl, rfl, by decide +kernel, rfl, by decide +kernel, by decide +kernel⟩
theorem sc_law_line : FnScope ["_law_call", "_law_told", "e"] ["_law_call"] (defScope s_law_line) := ⟨rfl, rfl, rfl, by decide +kernel, rfl, by decide +kernel, by decide +kernel⟩
theorem sc_law_has : FnScope ["_law_product", "_law_text_here", "_law_at", "_law_sign"] ["_law_product", "_law_text_here"] (defScope s_law_has) := ⟨rfl, rfl, rfl, by decide +kernel, rfl, by decide +kernel, by decide +kernel⟩
theorem sc_law_asked_right : FnScope ["_law_pot_here", "_law_back", "_law_signs", "_law_products_here", "_law_turn", "_law_text_here", "_law_more", "_law_product"] ["_law_pot_here", "_law_back", "_law_signs", "_law_products_here"] (defScope s_law_asked_right) := ⟨rfl, rfl, rfl, by decide +kernel, rfl, by decide +kernel, by decide +kernel⟩
theorem sc_law_thing : FnScope ["_law_pot_here", "_law_signs", "_law_products_here", "_law_kind"] ["_law_pot_here", "_law_signs", "_law_products_here"] (defScope s_law_thing) := ⟨rfl, rfl, rfl, by decide +kernel, rfl, by decide +kernel, by decide +kernel⟩
theorem sc_law_right : FnScope ["_law_pot_here", "_law_signs", "_law_products_here", "_law_thing_here", "_law_due", "_law_seen", "_law_codes", "_law_sign", "_law_told", "_law_back", "_law_near", "_law_more"] ["_law_pot_here"] (defScope s_law_right) := ⟨rfl, rfl, rfl, by decide +kernel, rfl, by decide +kernel, by decide +kernel⟩
theorem sc_law : FnScope ["_law_script", "_law_k"] ["_law_script"] (defScope s_law) := ⟨rfl, rfl, rfl, by decide +kernel, rfl, by decide +kernel, by decide +kernel⟩
abbrev s_Sum_init : Stmt := inClass (topS 82) 1
theorem sc_Sum_init : FnScope ["self", "letters", "products", "position", "product", "kept"] ["self", "letters", "products"] (defScope s_Sum_init) := ⟨rfl, rfl, rfl, by decide +kernel, rfl, by decide +kernel, by decide +kernel⟩
abbrev s_Sum_products : Stmt := inClass (topS 82) 6
theorem sc_Sum_products : FnScope ["self"] ["self"] (defScope s_Sum_products) := ⟨rfl, rfl, rfl, by decide +kernel, rfl, by decide +kernel, by decide +kernel⟩
abbrev s_Sum_want_other : Stmt := inClass (topS 82) 7
theorem sc_Sum_want_other : FnScope ["self", "other"] ["self", "other"] (defScope s_Sum_want_other) := ⟨rfl, rfl, rfl, by decide +kernel, rfl, by decide +kernel, by decide +kernel⟩
abbrev s_Sum_is_within : Stmt := inClass (topS 82) 8
theorem sc_Sum_is_within : FnScope ["self", "other"] ["self", "other"] (defScope s_Sum_is_within) := ⟨rfl, rfl, rfl, by decide +kernel, rfl, by decide +kernel, by decide +kernel⟩
abbrev s_Sum_contains : Stmt := inClass (topS 82) 14
theorem sc_Sum_contains : FnScope ["self", "value", "one"] ["self", "value"] (defScope s_Sum_contains) := ⟨rfl, rfl, rfl, by decide +kernel, rfl, by decide +kernel, by decide +kernel⟩
abbrev s_Sum_len : Stmt := inClass (topS 82) 15
theorem sc_Sum_len : FnScope ["self"] ["self"] (defScope s_Sum_len) := ⟨rfl, rfl, rfl, by decide +kernel, rfl, by decide +kernel, by decide +kernel⟩
abbrev s_Sum_and : Stmt := inClass (topS 82) 16
theorem sc_Sum_and : FnScope ["self", "other", "sizes", "product"] ["self", "other"] (defScope s_Sum_and) := ⟨rfl, rfl, rfl, by decide +kernel, rfl, by decide +kernel, by decide +kernel⟩
abbrev s_Sum_or : Stmt := inClass (topS 82) 17
theorem sc_Sum_or : FnScope ["self", "other"] ["self", "other"] (defScope s_Sum_or) := ⟨rfl, rfl, rfl, by decide +kernel, rfl, by decide +kernel, by decide +kernel⟩
abbrev s_Sum_eq : Stmt := inClass (topS 82) 18
theorem sc_Sum_eq : FnScope ["self", "other"] ["self", "other"] (defScope s_Sum_eq) := ⟨rfl, rfl, rfl, by decide +kernel, rfl, by decide +kernel, by decide +kernel⟩
abbrev s_Sum_repr : Stmt := inClass (topS 82) 19
theorem sc_Sum_repr : FnScope ["self"] ["self"] (defScope s_Sum_repr) := ⟨rfl, rfl, rfl, by decide +kernel, rfl, by decide +kernel, by decide +kernel⟩
abbrev s_Sum_letters : Stmt := inClass (topS 82) 5
theorem sc_Sum_letters : FnScope ["self"] ["self"] (defScope s_Sum_letters) := ⟨rfl, rfl, rfl, by decide +kernel, rfl, by decide +kernel, by decide +kernel⟩
abbrev s_Sum_whole : Stmt := inClass (topS 82) 2
theorem sc_Sum_whole : FnScope ["letters"] ["letters"] (defScope s_Sum_whole) := ⟨rfl, rfl, rfl, by decide +kernel, rfl, by decide +kernel, by decide +kernel⟩
abbrev s_MachineReader_init : Stmt := inClass (topS 92) 0
theorem sc_MachineReader_init : FnScope ["self"] ["self"] (defScope s_MachineReader_init) := ⟨rfl, rfl, rfl, by decide +kernel, rfl, by decide +kernel, by decide +kernel⟩
abbrev s_MachineReader_take : Stmt := inClass (topS 92) 1
theorem sc_MachineReader_take : FnScope ["self", "line", "words"] ["self", "line"] (defScope s_MachineReader_take) := ⟨rfl, rfl, rfl, by decide +kernel, rfl, by decide +kernel, by decide +kernel⟩
abbrev s_MachineReader_take_place : Stmt := inClass (topS 92) 2
abbrev s_MachineReader_is_lacking : Stmt := inClass (topS 92) 3
abbrev s_MachineReader_made : Stmt := inClass (topS 92) 4
abbrev s_SumReader_init : Stmt := inClass (topS 93) 0
theorem sc_SumReader_init : FnScope ["self"] ["self"] (defScope s_SumReader_init) := ⟨rfl, rfl, rfl, by decide +kernel, rfl, by decide +kernel, by decide +kernel⟩
abbrev s_SumReader_take : Stmt := inClass (topS 93) 1
theorem sc_SumReader_take : FnScope ["self", "line", "words"] ["self", "line"] (defScope s_SumReader_take) := ⟨rfl, rfl, rfl, by decide +kernel, rfl, by decide +kernel, by decide +kernel⟩
abbrev s_SumReader_take_product : Stmt := inClass (topS 93) 2
theorem sc_SumReader_take_product : FnScope ["self", "product"] ["self", "product"] (defScope s_SumReader_take_product) := ⟨rfl, rfl, rfl, by decide +kernel, rfl, by decide +kernel, by decide +kernel⟩
abbrev s_SumReader_is_lacking : Stmt := inClass (topS 93) 3
theorem sc_SumReader_is_lacking : FnScope ["self"] ["self"] (defScope s_SumReader_is_lacking) := ⟨rfl, rfl, rfl, by decide +kernel, rfl, by decide +kernel, by decide +kernel⟩
abbrev s_SumReader_made : Stmt := inClass (topS 93) 4
theorem sc_SumReader_made : FnScope ["self", "at", "product", "others", "other"] ["self"] (defScope s_SumReader_made) := ⟨rfl, rfl, rfl, by decide +kernel, rfl, by decide +kernel, by decide +kernel⟩
/-- what the top has left of a static method -/
structure Ds (K : PySem.W.Frag) (C : Addr) (x qual : Str) (st : Stmt) (ps : List Str) (p f : Addr) (fd : FuncData) : Prop where
  F : Fun K x qual st f fd
  b : L2.Binds K fd ps []
  s : SMet K C (.type "type") x p f
/-- what the top has left of a method -/
structure Dm (K : PySem.W.Frag) (C : Addr) (x qual : Str) (st : Stmt) (ps : List Str) (f : Addr) (fd : FuncData) : Prop where
  F : Fun K x qual st f fd
  b : L2.Binds K fd ps []
  m : Meth K C x f
/-- .. of a property -/
structure Dp1 (K : PySem.W.Frag) (C : Addr) (x qual : Str) (st : Stmt) (p f : Addr) (fd : FuncData) : Prop where
  F : Fun K x qual st f fd
  b : L2.Binds K fd ["self"] []
  p : PropOf K C x p f
/-- what the top has left of a def -/
structure Dn (K : PySem.W.Frag) (mg : Str → Option Value) (x : Str) (st : Stmt) (ps : List Str) (f : Addr) (fd : FuncData) : Prop where
  F : Fun K x x st f fd
  b : L2.Binds K fd ps []
  g : mg x = some (.ref f)
abbrev s_InvalidRow_init : Stmt := inClass (topS 13) 0
theorem es_InvalidRow : ErrS ["self", "row"] (defArgs s_InvalidRow_init) (defScope s_InvalidRow_init) := ⟨rfl, rfl, by decide +kernel, ⟨_, rfl, rfl⟩, rfl, by decide, rfl, by decide +kernel, rfl, rfl⟩
theorem eb_InvalidRow : Bd1 (defScope s_InvalidRow_init) (defBody s_InvalidRow_init) "row" "row" := ⟨_, _, _, _, _, _, _, _, _, _, _, _, rfl, fun _ _ _ _ _ => ⟨_, rfl⟩, ⟨rfl, by decide, fun _ _ _ _ _ => rfl⟩⟩
abbrev PW : Program := PySem.Challenge.pw_missedparts_k91_whole_texts_of_sums
structure All (K : PySem.W.Frag) (mg : Str → Option Value) where
  C_InvalidRow : Addr
  g_InvalidRow : mg "InvalidRow" = some (.ref C_InvalidRow)
  er_InvalidRow : Er1 PW K mg C_InvalidRow "row" "row"
  xf_InvalidRow : XfC K C_InvalidRow
  te_InvalidRow : PySem.W.exmOne K (.ref C_InvalidRow) (.ref C_InvalidRow) = some true
  nf_InvalidRow_row : PySem.W.findIn K (.ref C_InvalidRow) "row" = some none
  f_is_list : Addr
  d_is_list : FuncData
  is_list : Dn K mg "is_list" s_is_list ["value"] f_is_list d_is_list
  f_is_text : Addr
  d_is_text : FuncData
  is_text : Dn K mg "is_text" s_is_text ["value"] f_is_text d_is_text
  f_are_letters : Addr
  d_are_letters : FuncData
  are_letters : Dn K mg "are_letters" s_are_letters ["value"] f_are_letters d_are_letters
  f_is_text_over : Addr
  d_is_text_over : FuncData
  is_text_over : Dn K mg "is_text_over" s_is_text_over ["letters", "value"] f_is_text_over d_is_text_over
  f_want_few : Addr
  d_want_few : FuncData
  want_few : Dn K mg "want_few" s_want_few ["what", "many", "limit"] f_want_few d_want_few
  f_want_same : Addr
  d_want_same : FuncData
  want_same : Dn K mg "want_same" s_want_same ["one", "other"] f_want_same d_want_same
  f_is_star : Addr
  d_is_star : FuncData
  is_star : Dn K mg "is_star" s_is_star ["piece"] f_is_star d_is_star
  f_letters_in : Addr
  d_letters_in : FuncData
  letters_in : Dn K mg "letters_in" s_letters_in ["piece"] f_letters_in d_letters_in
  f_are_rising : Addr
  d_are_rising : FuncData
  are_rising : Dn K mg "are_rising" s_are_rising ["letters"] f_are_rising d_are_rising
  f_is_piece : Addr
  d_is_piece : FuncData
  is_piece : Dn K mg "is_piece" s_is_piece ["value"] f_is_piece d_is_piece
  f_is_product : Addr
  d_is_product : FuncData
  is_product : Dn K mg "is_product" s_is_product ["value"] f_is_product d_is_product
  f_is_product_over : Addr
  d_is_product_over : FuncData
  is_product_over : Dn K mg "is_product_over" s_is_product_over ["letters", "value"] f_is_product_over d_is_product_over
  f_holds : Addr
  d_holds : FuncData
  holds : Dn K mg "holds" s_holds ["piece", "other"] f_holds d_holds
  f_place_behind : Addr
  d_place_behind : FuncData
  place_behind : Dn K mg "place_behind" s_place_behind ["product", "place", "piece"] f_place_behind d_place_behind
  f_place_by : Addr
  d_place_by : FuncData
  place_by : Dn K mg "place_by" s_place_by ["product", "place", "pieces"] f_place_by d_place_by
  f_has_text : Addr
  d_has_text : FuncData
  has_text : Dn K mg "has_text" s_has_text ["product", "text"] f_has_text d_has_text
  f_lies_within : Addr
  d_lies_within : FuncData
  lies_within : Dn K mg "lies_within" s_lies_within ["one", "other"] f_lies_within d_lies_within
  f_reduced_of : Addr
  d_reduced_of : FuncData
  reduced_of : Dn K mg "reduced_of" s_reduced_of ["product"] f_reduced_of d_reduced_of
  f_kept_of : Addr
  d_kept_of : FuncData
  kept_of : Dn K mg "kept_of" s_kept_of ["products"] f_kept_of d_kept_of
  f_met_behind : Addr
  d_met_behind : FuncData
  met_behind : Dn K mg "met_behind" s_met_behind ["one", "other", "laters"] f_met_behind d_met_behind
  f_meet_of : Addr
  d_meet_of : FuncData
  meet_of : Dn K mg "meet_of" s_meet_of ["one", "other"] f_meet_of d_meet_of
  f_sum_of : Addr
  d_sum_of : FuncData
  sum_of : Dn K mg "sum_of" s_sum_of ["letters", "products"] f_sum_of d_sum_of
  f_all_within : Addr
  d_all_within : FuncData
  all_within : Dn K mg "all_within" s_all_within ["some", "others"] f_all_within d_all_within
  f_meets_of : Addr
  d_meets_of : FuncData
  meets_of : Dn K mg "meets_of" s_meets_of ["some", "others"] f_meets_of d_meets_of
  f_want_letters : Addr
  d_want_letters : FuncData
  want_letters : Dn K mg "want_letters" s_want_letters ["letters"] f_want_letters d_want_letters
  f_line_of : Addr
  d_line_of : FuncData
  line_of : Dn K mg "line_of" s_line_of ["words"] f_line_of d_line_of
  f_machine_lines : Addr
  d_machine_lines : FuncData
  machine_lines : Dn K mg "machine_lines" s_machine_lines ["machine"] f_machine_lines d_machine_lines
  f_sum_lines : Addr
  d_sum_lines : FuncData
  sum_lines : Dn K mg "sum_lines" s_sum_lines ["entry"] f_sum_lines d_sum_lines
  f_text_of : Addr
  d_text_of : FuncData
  text_of : Dn K mg "text_of" s_text_of ["entry"] f_text_of d_text_of
  f_bytes_of : Addr
  d_bytes_of : FuncData
  bytes_of : Dn K mg "bytes_of" s_bytes_of ["entry"] f_bytes_of d_bytes_of
  f_goal_of : Addr
  d_goal_of : FuncData
  goal_of : Dn K mg "goal_of" s_goal_of ["word"] f_goal_of d_goal_of
  f_read_by : Addr
  d_read_by : FuncData
  read_by : Dn K mg "read_by" s_read_by ["reader", "written"] f_read_by d_read_by
  f_read_machine : Addr
  d_read_machine : FuncData
  read_machine : Dn K mg "read_machine" s_read_machine ["written"] f_read_machine d_read_machine
  f_read_sum : Addr
  d_read_sum : FuncData
  read_sum : Dn K mg "read_sum" s_read_sum ["written"] f_read_sum d_read_sum
  f_law_pot : Addr
  d_law_pot : FuncData
  law_pot : Dn K mg "_law_pot" s_law_pot ["_law_script", "_law_k"] f_law_pot d_law_pot
  f_law_draw : Addr
  d_law_draw : FuncData
  law_draw : Dn K mg "_law_draw" s_law_draw ["_law_pot_here", "_law_sides"] f_law_draw d_law_draw
  f_law_pick : Addr
  d_law_pick : FuncData
  law_pick : Dn K mg "_law_pick" s_law_pick ["_law_pot_here", "_law_some"] f_law_pick d_law_pick
  f_law_piece : Addr
  d_law_piece : FuncData
  law_piece : Dn K mg "_law_piece" s_law_piece ["_law_pot_here", "_law_signs"] f_law_piece d_law_piece
  f_law_products : Addr
  d_law_products : FuncData
  law_products : Dn K mg "_law_products" s_law_products ["_law_pot_here", "_law_signs"] f_law_products d_law_products
  f_law_text : Addr
  d_law_text : FuncData
  law_text : Dn K mg "_law_text" s_law_text ["_law_signs", "_law_products_here"] f_law_text d_law_text
  f_law_line : Addr
  d_law_line : FuncData
  law_line : Dn K mg "_law_line" s_law_line ["_law_call"] f_law_line d_law_line
  f_law_has : Addr
  d_law_has : FuncData
  law_has : Dn K mg "_law_has" s_law_has ["_law_product", "_law_text_here"] f_law_has d_law_has
  f_law_asked_right : Addr
  d_law_asked_right : FuncData
  law_asked_right : Dn K mg "_law_asked_right" s_law_asked_right ["_law_pot_here", "_law_back", "_law_signs", "_law_products_here"] f_law_asked_right d_law_asked_right
  f_law_thing : Addr
  d_law_thing : FuncData
  law_thing : Dn K mg "_law_thing" s_law_thing ["_law_pot_here", "_law_signs", "_law_products_here"] f_law_thing d_law_thing
  f_law_right : Addr
  d_law_right : FuncData
  law_right : Dn K mg "_law_right" s_law_right ["_law_pot_here"] f_law_right d_law_right
  f_law : Addr
  d_law : FuncData
  law : Dn K mg "law" s_law ["_law_script"] f_law d_law
  C_Machine : Addr
  cl_Machine : Cls K C_Machine
  g_Machine : mg "Machine" = some (.ref C_Machine)
  mk_Machine : PySem.W.makesIn K C_Machine = true
  kp_Machine : PySem.W.keepIn K (.ref C_Machine) = true
  ca_Machine : PySem.W.findIn K (.ref C_Machine) "__class__" = some (some (.builtin "object.__class__"))
  cg_Machine : PySem.W.specialIn K (.builtin "object.__class__") "__get__" = some (some (.builtin "getset_descriptor.__get__"))
  ct_Machine : PySem.W.takesIn K (.builtin "object.__class__") = some true
  ne_Machine : PySem.W.findIn K (.ref C_Machine) "__ne__" = some (some (.builtin "object.__ne__"))
  tt_Machine : PySem.W.typeIn K (.ref C_Machine) = some (.type "type")
  cr_Machine : ClX.CRead K C_Machine (.type "type")
  C_Sum : Addr
  cl_Sum : Cls K C_Sum
  g_Sum : mg "Sum" = some (.ref C_Sum)
  mk_Sum : PySem.W.makesIn K C_Sum = true
  kp_Sum : PySem.W.keepIn K (.ref C_Sum) = true
  ca_Sum : PySem.W.findIn K (.ref C_Sum) "__class__" = some (some (.builtin "object.__class__"))
  cg_Sum : PySem.W.specialIn K (.builtin "object.__class__") "__get__" = some (some (.builtin "getset_descriptor.__get__"))
  ct_Sum : PySem.W.takesIn K (.builtin "object.__class__") = some true
  ne_Sum : PySem.W.findIn K (.ref C_Sum) "__ne__" = some (some (.builtin "object.__ne__"))
  tt_Sum : PySem.W.typeIn K (.ref C_Sum) = some (.type "type")
  ns_Sum : PySem.W.mroIn K C_Sum (.type "str") = some false
  cr_Sum : ClX.CRead K C_Sum (.type "type")
  mo_Sum : ∃ cd, PySem.W.clsIn K C_Sum = some cd ∧ cd.mro = [.ref C_Sum, .type "object"]
  ni_Sum_and : PySem.W.findIn K (.ref C_Sum) "__iand__" = some none
  ni_Sum_or : PySem.W.findIn K (.ref C_Sum) "__ior__" = some none
  cv_Sum_MOST_PRODUCTS : ∃ t, ClX.CVal K C_Sum (.type "type") "MOST_PRODUCTS" (.int 60) (.int 60 t)
  n_Sum_own_letters : NoAttr K C_Sum "own_letters"
  n_Sum_own_products : NoAttr K C_Sum "own_products"
  k_Sum_MOST_PRODUCTS : ∃ t, Con K C_Sum "MOST_PRODUCTS" (.int 60) (.int 60 t)
  f_Sum_init : Addr
  d_Sum_init : FuncData
  Sum_init : Dm K C_Sum "__init__" "Sum.__init__" s_Sum_init ["self", "letters", "products"] f_Sum_init d_Sum_init
  f_Sum_products : Addr
  d_Sum_products : FuncData
  Sum_products : Dm K C_Sum "products" "Sum.products" s_Sum_products ["self"] f_Sum_products d_Sum_products
  f_Sum_want_other : Addr
  d_Sum_want_other : FuncData
  Sum_want_other : Dm K C_Sum "want_other" "Sum.want_other" s_Sum_want_other ["self", "other"] f_Sum_want_other d_Sum_want_other
  f_Sum_is_within : Addr
  d_Sum_is_within : FuncData
  Sum_is_within : Dm K C_Sum "is_within" "Sum.is_within" s_Sum_is_within ["self", "other"] f_Sum_is_within d_Sum_is_within
  f_Sum_contains : Addr
  d_Sum_contains : FuncData
  Sum_contains : Dm K C_Sum "__contains__" "Sum.__contains__" s_Sum_contains ["self", "value"] f_Sum_contains d_Sum_contains
  f_Sum_len : Addr
  d_Sum_len : FuncData
  Sum_len : Dm K C_Sum "__len__" "Sum.__len__" s_Sum_len ["self"] f_Sum_len d_Sum_len
  f_Sum_and : Addr
  d_Sum_and : FuncData
  Sum_and : Dm K C_Sum "__and__" "Sum.__and__" s_Sum_and ["self", "other"] f_Sum_and d_Sum_and
  f_Sum_or : Addr
  d_Sum_or : FuncData
  Sum_or : Dm K C_Sum "__or__" "Sum.__or__" s_Sum_or ["self", "other"] f_Sum_or d_Sum_or
  f_Sum_eq : Addr
  d_Sum_eq : FuncData
  Sum_eq : Dm K C_Sum "__eq__" "Sum.__eq__" s_Sum_eq ["self", "other"] f_Sum_eq d_Sum_eq
  f_Sum_repr : Addr
  d_Sum_repr : FuncData
  Sum_repr : Dm K C_Sum "__repr__" "Sum.__repr__" s_Sum_repr ["self"] f_Sum_repr d_Sum_repr
  p_Sum_letters : Addr
  f_Sum_letters : Addr
  d_Sum_letters : FuncData
  Sum_letters : Dp1 K C_Sum "letters" "Sum.letters" s_Sum_letters p_Sum_letters f_Sum_letters d_Sum_letters
  C_MachineReader : Addr
  cl_MachineReader : Cls K C_MachineReader
  g_MachineReader : mg "MachineReader" = some (.ref C_MachineReader)
  mk_MachineReader : PySem.W.makesIn K C_MachineReader = true
  kp_MachineReader : PySem.W.keepIn K (.ref C_MachineReader) = true
  ca_MachineReader : PySem.W.findIn K (.ref C_MachineReader) "__class__" = some (some (.builtin "object.__class__"))
  cg_MachineReader : PySem.W.specialIn K (.builtin "object.__class__") "__get__" = some (some (.builtin "getset_descriptor.__get__"))
  ct_MachineReader : PySem.W.takesIn K (.builtin "object.__class__") = some true
  ne_MachineReader : PySem.W.findIn K (.ref C_MachineReader) "__ne__" = some (some (.builtin "object.__ne__"))
  tt_MachineReader : PySem.W.typeIn K (.ref C_MachineReader) = some (.type "type")
  cr_MachineReader : ClX.CRead K C_MachineReader (.type "type")
  n_MachineReader_own_letters : NoAttr K C_MachineReader "own_letters"
  n_MachineReader_own_rows : NoAttr K C_MachineReader "own_rows"
  n_MachineReader_own_kinds : NoAttr K C_MachineReader "own_kinds"
  f_MachineReader_init : Addr
  d_MachineReader_init : FuncData
  MachineReader_init : Dm K C_MachineReader "__init__" "MachineReader.__init__" s_MachineReader_init ["self"] f_MachineReader_init d_MachineReader_init
  f_MachineReader_take : Addr
  d_MachineReader_take : FuncData
  MachineReader_take : Dm K C_MachineReader "take" "MachineReader.take" s_MachineReader_take ["self", "line"] f_MachineReader_take d_MachineReader_take
  f_MachineReader_take_place : Addr
  d_MachineReader_take_place : FuncData
  MachineReader_take_place : Dm K C_MachineReader "take_place" "MachineReader.take_place" s_MachineReader_take_place ["self", "words"] f_MachineReader_take_place d_MachineReader_take_place
  f_MachineReader_is_lacking : Addr
  d_MachineReader_is_lacking : FuncData
  MachineReader_is_lacking : Dm K C_MachineReader "is_lacking" "MachineReader.is_lacking" s_MachineReader_is_lacking ["self"] f_MachineReader_is_lacking d_MachineReader_is_lacking
  f_MachineReader_made : Addr
  d_MachineReader_made : FuncData
  MachineReader_made : Dm K C_MachineReader "made" "MachineReader.made" s_MachineReader_made ["self"] f_MachineReader_made d_MachineReader_made
  C_SumReader : Addr
  cl_SumReader : Cls K C_SumReader
  g_SumReader : mg "SumReader" = some (.ref C_SumReader)
  mk_SumReader : PySem.W.makesIn K C_SumReader = true
  kp_SumReader : PySem.W.keepIn K (.ref C_SumReader) = true
  ca_SumReader : PySem.W.findIn K (.ref C_SumReader) "__class__" = some (some (.builtin "object.__class__"))
  cg_SumReader : PySem.W.specialIn K (.builtin "object.__class__") "__get__" = some (some (.builtin "getset_descriptor.__get__"))
  ct_SumReader : PySem.W.takesIn K (.builtin "object.__class__") = some true
  ne_SumReader : PySem.W.findIn K (.ref C_SumReader) "__ne__" = some (some (.builtin "object.__ne__"))
  tt_SumReader : PySem.W.typeIn K (.ref C_SumReader) = some (.type "type")
  cr_SumReader : ClX.CRead K C_SumReader (.type "type")
  n_SumReader_own_letters : NoAttr K C_SumReader "own_letters"
  n_SumReader_own_told : NoAttr K C_SumReader "own_told"
  f_SumReader_init : Addr
  d_SumReader_init : FuncData
  SumReader_init : Dm K C_SumReader "__init__" "SumReader.__init__" s_SumReader_init ["self"] f_SumReader_init d_SumReader_init
  f_SumReader_take : Addr
  d_SumReader_take : FuncData
  SumReader_take : Dm K C_SumReader "take" "SumReader.take" s_SumReader_take ["self", "line"] f_SumReader_take d_SumReader_take
  f_SumReader_take_product : Addr
  d_SumReader_take_product : FuncData
  SumReader_take_product : Dm K C_SumReader "take_product" "SumReader.take_product" s_SumReader_take_product ["self", "product"] f_SumReader_take_product d_SumReader_take_product
  f_SumReader_is_lacking : Addr
  d_SumReader_is_lacking : FuncData
  SumReader_is_lacking : Dm K C_SumReader "is_lacking" "SumReader.is_lacking" s_SumReader_is_lacking ["self"] f_SumReader_is_lacking d_SumReader_is_lacking
  f_SumReader_made : Addr
  d_SumReader_made : FuncData
  SumReader_made : Dm K C_SumReader "made" "SumReader.made" s_SumReader_made ["self"] f_SumReader_made d_SumReader_made
  p_Sum_whole : Addr
  f_Sum_whole : Addr
  d_Sum_whole : FuncData
  Sum_whole : Ds K C_Sum "whole" "Sum.whole" s_Sum_whole ["letters"] p_Sum_whole f_Sum_whole d_Sum_whole
  xc_InvalidRow : ExcC K C_InvalidRow
  C_PartsError : Addr
  g_PartsError : mg "PartsError" = some (.ref C_PartsError)
  is_InvalidRow_PartsError : PySem.W.kitOne K (.ref C_InvalidRow) (.ref C_PartsError) = some true
  is_InvalidRow_ValueError : PySem.W.kitOne K (.ref C_InvalidRow) (.type "ValueError") = some true
  b_ValueError : mg "ValueError" = none
  b_abs : mg "abs" = none
  b_all : mg "all" = none
  b_any : mg "any" = none
  b_bool : mg "bool" = none
  b_dict : mg "dict" = none
  b_divmod : mg "divmod" = none
  b_enumerate : mg "enumerate" = none
  b_int : mg "int" = none
  b_isinstance : mg "isinstance" = none
  b_len : mg "len" = none
  b_list : mg "list" = none
  b_max : mg "max" = none
  b_min : mg "min" = none
  b_ord : mg "ord" = none
  b_property : mg "property" = none
  b_range : mg "range" = none
  b_repr : mg "repr" = none
  b_set : mg "set" = none
  b_sorted : mg "sorted" = none
  b_str : mg "str" = none
  b_super : mg "super" = none
  b_tuple : mg "tuple" = none
  b_zip : mg "zip" = none
  c_SMALL_basics : ∃ t, mg "SMALL_basics" = some (.str "abcdefghijklmnopqrstuvwxyz" t)
  c_MOST_LETTERS : ∃ t, mg "MOST_LETTERS" = some (.int 3 t)
  c_SMALL_products : ∃ t, mg "SMALL_products" = some (.str "abcdefghijklmnopqrstuvwxyz" t)
  c_STAR : ∃ t, mg "STAR" = some (.str "*" t)
  c_MOST_IN_STAR : ∃ t, mg "MOST_IN_STAR" = some (.int 3 t)
  c_MOST_PIECES : ∃ t, mg "MOST_PIECES" = some (.int 12 t)
  c_LOST : ∃ t, mg "LOST" = some (.int (-1) t)
  c_MOST_PARTS_LETTERS : ∃ t, mg "MOST_PARTS_LETTERS" = some (.int 60 t)
  c_MOST_TEXTS : ∃ t, mg "MOST_TEXTS" = some (.int 8 t)
  c_MOST_WITHOUT_LETTERS : ∃ t, mg "MOST_WITHOUT_LETTERS" = some (.int 8 t)
  c_DIGITS : ∃ t, mg "DIGITS" = some (.str "0123456789" t)
  A_KINDS : Addr
  g_KINDS : mg "KINDS" = some (.ref A_KINDS)
end Lw
namespace L3
open PySem PySem.Spec PyProof.Rows L2
mutual
def keyN : PyData → NestedKey
  | .none => .none
  | .bool b => .num (if b = true then 1 else 0)
  | .int i => .num i
  | .str x => .text x
  | .tuple ds => .tup (keyNs ds)
  | .list _ => .none
  | .dict _ => .none
def keyNs : List PyData → List NestedKey
  | [] => []
  | d :: ds => keyN d :: keyNs ds
end
mutual
def keyable : PyData → Bool
  | .none => true
  | .bool _ => true
  | .int _ => true
  | .str _ => true
  | .tuple ds => keyables ds
  | .list _ => false
  | .dict _ => false
def keyables : List PyData → Bool
  | [] => true
  | d :: ds => keyable d && keyables ds
end
section
variable {X : Cx} {pins : List (Addr × Obj)} {σ : L2.St} {H : Hp} {s : Shared}
mutual
theorem nested_of (I : L2.Inv X pins σ H s) : ∀ (d : PyData) (v : V) (u : Value), Dp X.K H v d → RelV v u → keyable d = true → NestedIs s.heap (keyN d) u
  | .none, _, _, h, r, _ => by
    cases h
    cases r
    exact .none
  | .bool b, _, _, h, r, _ => by
    cases h
    cases r
    exact .bool rfl
  | .int i, _, _, h, r, _ => by
    cases h
    obtain ⟨t, rfl⟩ := r
    exact .int i t
  | .str x, _, _, h, r, _ => by
    cases h
    obtain ⟨t, rfl⟩ := r
    exact .text x t
  | .list ds, _, _, _, _, k => by cases k
  | .dict ds, _, _, _, _, k => by cases k
  | .tuple ds, _, _, h, r, k => by
    cases h with
    | tup hs ha =>
      cases r
      obtain ⟨its, rv, ⟨o, ho, hc, n, hd⟩, _⟩ := I.tuple hs
      exact .tup ho hc hd (by simpa using nested_all I ds _ its ha rv k)
theorem nested_all (I : L2.Inv X pins σ H s) : ∀ (ds : List PyData) (vs : List V) (us : List Value), DpAll X.K H vs ds → Vals vs us → keyables ds = true → NestedAll s.heap (keyNs ds) us
  | [], _, _, h, r, _ => by
    cases h
    cases r
    exact .nil
  | d :: ds, _, _, h, r, k => by
    cases h with
    | cons h1 h2 =>
      cases r with
      | cons r1 r2 =>
        rw [keyables, Bool.and_eq_true] at k
        exact .cons (nested_of I d _ _ h1 r1 k.1) (nested_all I ds _ _ h2 r2 k.2)
end
end
/-- an entry: the key's data, its address, the value -/
abbrev EntN := PyData × Addr × V
def KN : List EntN → List (NestedKey × Addr × Value) → Prop := Paired fun p q => q.1 = keyN p.1 ∧ q.2.1 = p.2.1 ∧ RelV p.2.2 q.2.2
def valN (es : List EntN) (k : NestedKey) : Option V := (es.find? fun x => decide (keyN x.1 = k)).map (·.2.2)
theorem KN.val {es : List EntN} {xs : List (NestedKey × Addr × Value)} (r : KN es xs) (k : NestedKey) : RelO (valN es k) ((atKey xs k).map (·.2)) := by
  unfold KN at r
  induction r with
  | nil => exact True.intro
  | @cons p q ps qs h t ih =>
    obtain ⟨h1, _, h2⟩ := h
    by_cases e : keyN p.1 = k
    · have e' : q.1 = k := h1.trans e
      have b : atKey (q :: qs) k = some q.2 := by simp [atKey, List.find?_cons, e']
      have a : valN (p :: ps) k = some p.2.2 := by simp [valN, List.find?_cons, e]
      rw [a, b]; exact h2
    · have e' : ¬ q.1 = k := fun z => e (h1.symm.trans z)
      have b : atKey (q :: qs) k = atKey qs k := by simp [atKey, List.find?_cons, e']
      have a : valN (p :: ps) k = valN ps k := by simp [valN, List.find?_cons, e]
      rw [a, b]; exact ih
theorem KN.snoc {es : List EntN} {xs : List (NestedKey × Addr × Value)} (r : KN es xs) {p : EntN} {q : NestedKey × Addr × Value} (h : q.1 = keyN p.1 ∧ q.2.1 = p.2.1 ∧ RelV p.2.2 q.2.2) : KN (es ++ [p]) (xs ++ [q]) := Paired.snoc r h
/-- a dict with bools as keys -/
def TB (P : Program) (w : World) (a : Addr) (kvs : List (Bool × V)) : HO := .ext fun h => (a == sysModules) = false ∧ kvs.length ≤ sizeLine ∧ ∃ vs, KV kvs vs ∧ h.DictOf (PpSet.boolK P w) a vs
/-- a dict with tuples of any depth as keys -/
def TN (P : Program) (w : World) (a : Addr) (es : List EntN) : HO := .ext fun h => (a == sysModules) = false ∧ es.length ≤ sizeLine ∧ ∃ xs, KN es xs ∧ (xs.map (·.1)).Nodup ∧ ∃ o ens ep, h.get? a = some o ∧ o.ExactDict ∧ o.data = .dict ens ep ∧ ens.toList = xs.map (entryOfKey (nestedKind P w))
/-- the keys stand -/
def Keys (K : PySem.W.Frag) (H : Hp) (es : List EntN) : Prop := ∀ x ∈ es, Dp K H (.ref x.2.1) x.1 ∧ keyable x.1 = true ∧ (keyN x.1).depth ≤ 8
theorem Keys.same {K : PySem.W.Frag} {H H' : Hp} {es : List EntN} (h : Keys K H es) (s : Same H H') : Keys K H' es := fun x hx => ⟨Dp.same s (h x hx).1, (h x hx).2⟩
/-- what is found at a key -/
def XGet (P : Program) (w : World) (K : PySem.W.Frag) (H : Hp) (a : Addr) (y : V) (o : Option V) : Prop :=
  (∃ kvs b, H a = some (TB P w a kvs) ∧ y = .bl b ∧ valV kvs b = o) ∨
  ∃ es d p, H a = some (TN P w a es) ∧ y = .ref p ∧ Dp K H (.ref p) d ∧ keyable d = true ∧ (keyN d).depth ≤ 8 ∧ Keys K H es ∧ valN es (keyN d) = o
/-- a new key is put in -/
def XPut (P : Program) (w : World) (K : PySem.W.Frag) (H : Hp) (a : Addr) (y v : V) (H' : Hp) : Prop :=
  (∃ kvs b, H a = some (TB P w a kvs) ∧ y = .bl b ∧ kvs.length < sizeLine ∧ H' = upd H a (TB P w a (putK kvs b v))) ∨
  ∃ es d p, H a = some (TN P w a es) ∧ y = .ref p ∧ Dp K H (.ref p) d ∧ keyable d = true ∧ (keyN d).depth ≤ 8 ∧ Keys K H es ∧ valN es (keyN d) = none ∧ es.length < sizeLine ∧ H' = upd H a (TN P w a (es ++ [(d, p, v)]))
section
variable {X : Cx} {pins : List (Addr × Obj)} {σ : L2.St} {H : Hp} {s : Shared} {a : Addr} {A : Around} {E : Value → Shared → Prop} {y v : V} {u r : Value} {o : Option V}
theorem tb_of {P : Program} {w : World} {h : Heap} {kvs : List (Bool × V)} (ok : HOk P w H h) (e : H a = some (TB P w a kvs)) : (a == sysModules) = false ∧ kvs.length ≤ sizeLine ∧ ∃ vs, KV kvs vs ∧ h.DictOf (PpSet.boolK P w) a vs :=
  (show ObjOk P w H h a (TB P w a kvs) from ok a _ e).1
theorem tn_of (I : L2.Inv X pins σ H s) {es : List EntN} (e : H a = some (TN X.prog X.w a es)) (hk : Keys X.K H es) : (a == sysModules) = false ∧ es.length ≤ sizeLine ∧ ∃ xs, KN es xs ∧ s.heap.DictOfH (nestedKind X.prog X.w) a xs := by
  obtain ⟨h1, h2, xs, r, nd, o, ens, ep, h3, h4, h5, h6⟩ := (show ObjOk X.prog X.w H s.heap a (TN X.prog X.w a es) from I.hok a _ e).1
  refine ⟨h1, h2, xs, r, o, ens, ep, h3, h4, h5, h6, fun x hx => ?_, nd⟩
  obtain ⟨i, hi⟩ := List.mem_iff_getElem?.mp hx
  have all : ∀ {l : List EntN} {m : List (NestedKey × Addr × Value)}, KN l m → (∀ z ∈ l, Dp X.K H (.ref z.2.1) z.1 ∧ keyable z.1 = true ∧ (keyN z.1).depth ≤ 8) → ∀ x ∈ m, (nestedKind X.prog X.w).is s.heap x.1 x.2.1 := by
    intro l m q
    unfold KN at q
    induction q with
    | nil => intro _ x hx; exact nomatch hx
    | @cons p q ps qs hq t ih =>
      intro hz x hx
      rcases List.mem_cons.mp hx with e | hx
      · subst e
        obtain ⟨d1, d2, d3⟩ := hz p List.mem_cons_self
        refine ⟨?_, by rw [hq.1]; exact d3⟩
        rw [hq.1, hq.2.1]
        exact nested_of I p.1 _ _ d1 rfl d2
      · exact ih (fun z hz' => hz z (List.mem_cons_of_mem _ hz')) x hx
  exact all r hk x hx
theorem room_n (hu : A.units + 64 < cLine) : (nestedKind X.prog X.w).room A.in1 := by
  show A.in1.units + 8 < cLine
  rw [Around.in1_units]
  omega
theorem x_getItem {Q : Value → Shared → Prop} (hu : A.units + 64 < cLine) (I : L2.Inv X pins σ H s) (g : XGet X.prog X.w X.K H a y (some v)) (ry : RelV y u) (h : ∀ w' s', L2.Inv X pins σ H s' → RelV v w' → Q w' s') :
    wpAny (model X.prog X.w) A (getItem (.ref a) u) Q E s := by
  rcases g with ⟨kvs, k, e, ey, l⟩ | ⟨es, d, p, e, ey, hd, kd, dd, hk, l⟩
  · subst ey
    obtain ⟨hm, z, vs, rel, dd⟩ := tb_of I.hok e
    obtain ⟨w', hw, rw'⟩ := RelO.some_of (v := v) (o := valueAt vs k) (by rw [← l]; exact rel.val k)
    cases ry
    exact wpAny_getItem_of (PpSet.boolK_is _ _ k) dd.mapOf hw (h w' _ (I.tok _) rw')
  · subst ey
    cases (show u = Value.ref p from ry)
    obtain ⟨hm, z, xs, rel, ddd⟩ := tn_of I e hk
    obtain ⟨w', hw, rw'⟩ := RelO.some_of (v := v) (o := (atKey xs (keyN d)).map (·.2)) (by rw [← l]; exact rel.val _)
    obtain ⟨q, hq, hq2⟩ := Option.map_eq_some_iff.mp hw
    refine wpAny_getItem_heap (room_n hu) ⟨nested_of I d _ _ hd rfl kd, dd⟩ ddd hq ?_
    rw [hq2]
    exact h w' _ (I.tok _) rw'
theorem x_setItem {H' : Hp} {Q : Unit → Shared → Prop} (hu : A.units + 64 < cLine) (I : L2.Inv X pins σ H s) (g : XPut X.prog X.w X.K H a y v H') (ry : RelV y u) (rv : RelV v r) (h : ∀ s', L2.Inv X pins σ H' s' → Q () s') :
    wpAny (model X.prog X.w) A (setItem (.ref a) u r) Q E s := by
  rcases g with ⟨kvs, k, e, ey, l, eH⟩ | ⟨es, d, p, e, ey, hd, kd, dd, hk, hnone, l, eH⟩
  · subst ey eH
    obtain ⟨hm, z, vs, rel, dd⟩ := tb_of I.hok e
    cases ry
    have hz : vs.length ≤ sizeLine := by rw [← rel.length]; exact z
    have hl : (putK kvs k v).length ≤ sizeLine := by have := length_putK kvs k v; omega
    refine wpAny_setItem_pairs (hsz := hz) (PpSet.boolK_is _ _ k) dd fun h' dd' hs => h _ ?_
    have he : ∃ q, h'.get? a = some q := let ⟨q, _, _, hq, _⟩ := dd'; ⟨q, hq⟩
    exact d_write I (by rw [e]; exact True.intro) hs he ⟨⟨hm, hl, _, rel.put k rv, dd'⟩, he, fun h1 h2 ⟨a1, a2, ws, a3, q, en, ep, b1, b2, b3⟩ k => ⟨a1, a2, ws, a3, q, en, ep, k _ b1, b2, b3⟩⟩
  · subst ey eH
    cases (show u = Value.ref p from ry)
    obtain ⟨hm, z, xs, rel, ddd⟩ := tn_of I e hk
    have hz : xs.length ≤ sizeLine := by rw [← Paired.length rel]; exact z
    have hnew : atKey xs (keyN d) = none := by
      have q := (rel.val (keyN d)).isSome_eq
      rw [hnone, Option.isSome_map] at q
      cases e2 : atKey xs (keyN d) with
      | none => rfl
      | some x => rw [e2] at q; cases q
    refine wpAny_setItem_heap (hsz := hz) (room_n hu) ⟨nested_of I d _ _ hd rfl kd, dd⟩ ddd fun h' dd' hs => h _ ?_
    rw [storedH_new hnew] at dd'
    obtain ⟨q, ens, ep, hq, h2, h3, h4, _, h5⟩ := dd'
    refine d_write I (by rw [e]; exact True.intro) hs ⟨q, hq⟩ ⟨⟨hm, by rw [List.length_append]; exact l, _, rel.snoc (p := (d, p, v)) ⟨rfl, rfl, rv⟩, h5, q, ens, ep, hq, h2, h3, h4⟩, ⟨q, hq⟩, fun h1 h2 ⟨a1, a2, ws, a3, a4, q, en, ep, b1, b2⟩ k => ⟨a1, a2, ws, a3, a4, q, en, ep, k _ b1, b2⟩⟩
theorem x_typeIs (I : L2.Inv X pins σ H s) (g : XGet X.prog X.w X.K H a y o) : s.TypeIs (.ref a) "dict" := by
  rcases g with ⟨kvs, k, e, _, _⟩ | ⟨es, d, p, e, _, _, _, _, hk, _⟩
  · obtain ⟨_, _, vs, _, dd⟩ := tb_of I.hok e
    exact dd.typeIs
  · obtain ⟨_, _, xs, _, dd⟩ := tn_of I e hk
    exact dd.typeIs
end
def tDNewX (P : Program) (w : World) : TE := fun _ H Q => ∀ p, H p = none → ∃ o, (o = TB P w p [] ∨ o = TN P w p []) ∧ Q (.ref p) (upd H p o)
def tXGet (P : Program) (w : World) (K : PySem.W.Frag) (td ty : TE) : TE := fun σ H Q => td σ H fun x H1 => ty σ H1 fun y H2 => ∃ a v, x = .ref a ∧ XGet P w K H2 a y (some v) ∧ Q v H2
def sXPut (P : Program) (w : World) (K : PySem.W.Frag) (td ty tv : TE) : TS := fun D σ H => tv σ H fun v H1 => td σ H1 fun x H2 => ty σ H2 fun y H3 => ∃ a H4, x = .ref a ∧ XPut P w K H3 a y v H4 ∧ D.nx σ H4
section
variable {X : Cx} {o i e value : Expr} {pos pos' tpos : Pos} {td ty tv : TE}
theorem pe_dnewX : PE X (.Dict [] [] pos) (tDNewX X.prog X.w) := ⟨fun pins s σ H Q I h => by
  obtain ⟨ob, ho, q⟩ := h s.heap.objs.size (I.hok.fresh (Nat.le_refl _))
  have hb := L2.Inv.big I
  have hm : (s.heap.objs.size == sysModules) = false := by
    simp only [beq_eq_false_iff_ne, ne_eq]
    intro z
    rw [z] at hb
    exact absurd hb (Nat.lt_irrefl _)
  refine wpAny_Dict_empty ⟨.ref s.heap.objs.size, _, I.laid (a := s.heap.objs.size) (o := ob) (t' := s.toks) (fun _ _ q => Heap.get?_push_of_some _ q) (Nat.le_refl _) ?_, rfl, q⟩
  have hg : (s.heap.push { cls := .type "dict", data := .dict #[] }).get? s.heap.objs.size = some { cls := .type "dict", data := .dict #[] } := Heap.get?_push_size _ rfl
  rcases ho with rfl | rfl
  · exact ⟨⟨hm, Nat.zero_le _, [], .nil, Heap.DictOf.new _⟩, ⟨_, hg⟩, fun h1 h2 ⟨a1, a2, ws, a3, q, en, ep, b1, b2, b3⟩ k => ⟨a1, a2, ws, a3, q, en, ep, k _ b1, b2, b3⟩⟩
  · exact ⟨⟨hm, Nat.zero_le _, [], .nil, by simp, ⟨_, #[], 0, hg, ⟨rfl, rfl, rfl⟩, rfl, rfl⟩⟩, ⟨_, hg⟩, fun h1 h2 ⟨a1, a2, ws, a3, a4, q, en, ep, b1, b2⟩ k => ⟨a1, a2, ws, a3, a4, q, en, ep, k _ b1, b2⟩⟩⟩
theorem pe_xget (hu : X.A.units + 64 < cLine) (ho : PE X o td) (hi : PE X i ty) (hs : L2.NoSl i) : PE X (.Subscript o i pos) (tXGet X.prog X.w X.K td ty) := by
  refine ⟨fun pins s σ H Q I h => ?_⟩
  refine subD_of PySem.F.slot_dict_getitem.lookup hs (thn (ho.run pins s σ H _ I h) fun u s1 ⟨x, H1, I1, rx, q1⟩ => thn (hi.run pins s1 σ H1 _ I1 q1) fun iv s2 ⟨y, H2, I2, ry, a, v, ex, g, q2⟩ => ?_)
  subst ex
  obtain rfl : u = Value.ref a := rx
  exact ⟨x_typeIs I2 g, x_getItem hu I2 g ry fun w' s3 I3 rw' => ⟨v, H2, I3, rw', q2⟩⟩
theorem ps_xput (hu : X.A.units + 64 < cLine) (ho : PE X o td) (hi : PE X i ty) (hv : PE X value tv) (hs : swapsWith value (some (.Subscript o i pos')) pos.line X.env = pure false) :
    PS X (.Assign [.Subscript o i pos'] value pos) (sXPut X.prog X.w X.K td ty tv) := by
  refine ⟨fun pins s σ H D I h => ?_⟩
  refine wpAny_Assign_Subscript (thn (hv.run pins s σ H _ I h) fun r s1 ⟨v, H1, I1, rv, q1⟩ => thn (ho.run pins s1 σ H1 _ I1 q1) fun u s2 ⟨x, H2, I2, rx, q2⟩ => thn (hi.run pins s2 σ H2 _ I2 q2) fun iv s3 ⟨y, H3, I3, ry, a, H4, ex, g, q3⟩ => ?_) hs
  subst ex
  obtain rfl : u = Value.ref a := rx
  exact x_setItem hu I3 g ry rv fun s4 I4 => ⟨σ, H4, I4, q3⟩
end
end L3
namespace L3
open PySem PySem.Spec PyProof.Rows L2
/-- a kind of objects that can be members of a set -/
structure SK (P : Program) (w : World) (K : Type) [DecidableEq K] where
  kd : HeapKind P w K
  ofc : ∀ {A : Around} {E : Value → Shared → Prop} {s : Shared} {k : K} {b : Addr} {Q : Bool → Shared → Prop}, kd.is s.heap k b → Q false s → wpAny (model P w) A (ofAClassStatement 8 (.ref b)) Q E s
  hbv : ∀ {A : Around} {E : Value → Shared → Prop} {s : Shared} {k : K} {b : Addr} {Q : Bool → Shared → Prop}, kd.is s.heap k b → (∀ c, Q c s) → wpAny (model P w) A (hashByValue 8 (.ref b)) Q E s
  stays : ∀ {h h' : Heap} {k : K} {b : Addr}, kd.is h k b → (∀ c o vs n, h.get? c = some o → o.data = .seq vs n → h'.get? c = some o) → kd.is h' k b
section
variable {P : Program} {w : World} {K : Type} [DecidableEq K]
/-- what the set's rows are -/
def mems (m : SK P w K) (L : List (Addr × K)) : List (Int × Value) := L.map fun p => (m.kd.hash p.2, Value.ref p.1)
def hshs (m : SK P w K) (L : List (Addr × K)) : List Int := L.map fun p => m.kd.hash p.2
/-- the set at a, with its members L in the table's order -/
structure SetM (m : SK P w K) (h : Heap) (a : Addr) (L : List (Addr × K)) (es : Array (Int × Value)) (ep : Nat) (t : SetTable) : Prop where
  obj : ∃ o, h.get? a = some o ∧ o.ExactSet ∧ o.data = .set es ep t
  row : es.toList = mems m L
  tab : TabOk t (hshs m L)
  dis : (L.map Prod.snd).Nodup
  key : ∀ p ∈ L, m.kd.is h p.2 p.1
  ord : w.params.followText "set-order" = true ∨ t.led = true
  rm : L.length * 5 < t.mask * 3
  lt : L.length < 64
variable {m : SK P w K} {A : Around} {E : Value → Shared → Prop} {s : Shared} {a : Addr} {L : List (Addr × K)} {es : Array (Int × Value)} {ep : Nat} {t : SetTable}
theorem mems_len (m : SK P w K) (L : List (Addr × K)) : (mems m L).length = L.length := by unfold mems; rw [List.length_map]
theorem hshs_len (m : SK P w K) (L : List (Addr × K)) : (hshs m L).length = L.length := by unfold hshs; rw [List.length_map]
theorem rows_size (h : es.toList = mems m L) : es.size = L.length := by rw [← Array.length_toList, h, mems_len]
theorem rows_at (h : es.toList = mems m L) {i : Nat} {p : Addr × K} (e : L[i]? = some p) : es[i]? = some (m.kd.hash p.2, Value.ref p.1) := by
  rw [← Array.getElem?_toList, h, mems, List.getElem?_map, e, Option.map_some]
theorem SetM.fits (R : SetM m s.heap a L es ep t) : t.fits es.size = true := by
  have z := R.tab.sz
  rw [hshs_len] at z
  have q := rows_size R.row
  have u := R.rm
  simp only [SetTable.fits, SetTable.fill, R.tab.dm, Bool.and_eq_true, beq_iff_eq, decide_eq_true_eq]
  exact ⟨by omega, by show t.place.size + 0 ≤ t.mask; omega⟩
theorem odd_mask (R : SetM m s.heap a L es ep t) : ¬ t.gaveWay = true := by
  unfold SetTable.gaveWay
  rw [mask_odd R.tab.mok]
  decide
/-- nobody sees a search among such members -/
theorem unseen {x : Addr} {k : K} {Q : Bool → Shared → Prop} (hx : m.kd.is s.heap k x) : ∀ {ys : List Value}, (∀ y ∈ ys, ∃ c k', y = Value.ref c ∧ m.kd.is s.heap k' c) → Q false s → wpAny (model P w) A (searchCouldBeSeen (.ref x) ys) Q E s := by
  intro ys hy q
  unfold searchCouldBeSeen
  refine wpAny_bind (wpAny_forIn_list _ (fun rest r s' => r.1 = none ∧ s' = s ∧ ∀ y ∈ rest, ∃ c k', y = Value.ref c ∧ m.kd.is s.heap k' c) _ (fun v rest r s' i => ?_) (fun r s' i => ?_) _ _ ⟨rfl, rfl, hy⟩)
  · obtain ⟨_, rfl, al⟩ := i
    obtain ⟨c, k', rfl, hc⟩ := al v List.mem_cons_self
    have next := fun u hu => al u (List.mem_cons_of_mem _ hu)
    dsimp only
    by_cases hv : (x == c || (carriedByValue (.ref x) && carriedByValue (.ref c))) = true
    · exact wp_if_pos hv (wpAny_pure ⟨rfl, rfl, next⟩)
    · refine wp_if_neg hv (wpAny_bind (m.kd.quiet hx ?_))
      simp only [Bool.not_true, Bool.false_eq_true, if_false]
      refine wpAny_bind (m.kd.quiet hc ?_)
      simp only [Bool.not_true, Bool.false_eq_true, if_false]
      refine wpAny_bind (m.ofc hx ?_)
      simp only [Bool.false_eq_true, if_false]
      refine wpAny_bind (m.ofc hc ?_)
      simp only [Bool.false_eq_true, if_false]
      exact wpAny_pure ⟨rfl, rfl, next⟩
  · obtain ⟨hr, rfl, _⟩ := i
    obtain ⟨r1, r2⟩ := r
    dsimp only at hr
    subst hr
    exact wpAny_pure q
/-- the c-th step of the way of a hash -/
abbrev stp (t : SetTable) (h : Int) (c : Nat) : SetTable.Probe := nth t.mask (runAt t.mask (SetTable.bits h % (t.mask + 1)) (SetTable.bits h)) c
theorem stp_add (t : SetTable) (h : Int) (c q : Nat) : nth t.mask (stp t h c) q = stp t h (c + q) := (nth_add t.mask c _ q).symm
theorem nth_clean {k : Nat} : ∀ (n : Nat) (p : SetTable.Probe), p.dummy = none → (nth k p n).dummy = none
  | 0, _, e => e
  | n + 1, p, e => nth_clean n (adv k p) (by unfold adv; split <;> exact e)
theorem stp_clean (t : SetTable) (h : Int) (c : Nat) : (stp t h c).dummy = none := by
  exact nth_clean c _ rfl
/-- THE SEARCH for k, from step c on -/
theorem look_from (R : SetM m s.heap a L es ep t) {x : Addr} {k : K} (hx : m.kd.is s.heap k x) (hu : m.kd.room A) {N : Nat} (hN : N < 10 * SetTable.turns t.mask) (hfree : way t.mask (m.kd.hash k) N ∉ t.place.toList)
    (hfull : ∀ c, c < N → way t.mask (m.kd.hash k) c ∈ t.place.toList) {Q : SetFound → Shared → Prop} (q1 : k ∈ L.map Prod.snd → Q (.there none) s) (q2 : k ∉ L.map Prod.snd → Q (.free (way t.mask (m.kd.hash k) N) false) s) :
    ∀ (f c : Nat) (st : Option SetTable.Probe), st.getD (t.probeStart (m.kd.hash k)) = stp t (m.kd.hash k) c → c ≤ N → N - c < f →
      (∀ (i : Nat) p, L[i]? = some p → p.2 = k → ∃ d, c ≤ d ∧ d < N ∧ t.place.toList[i]? = some (way t.mask (m.kd.hash k) d)) →
      wpAny (model P w) A (setSearchFrom a (.ref x) (m.kd.hash k) true f st) Q E s
  | 0, _, _, _, _, z, _ => absurd z (Nat.not_lt_zero _)
  | f + 1, c, st, hst, hc, hf, hre => by
    obtain ⟨o, ho, hex, hd⟩ := R.obj
    have hL : ∀ {i : Nat} {p : Addr × K}, L[i]? = some p → ((fun i => (es[i]?.map (·.1)).getD 0) i : Int) = m.kd.hash p.2 := fun {i p} e => by
      show (es[i]?.map (·.1)).getD 0 = _
      rw [rows_at R.row e]
      rfl
    have hj : ∀ q, (nth t.mask (stp t (m.kd.hash k) c) q).j = way t.mask (m.kd.hash k) (c + q) := fun q => congrArg SetTable.Probe.j (stp_add t (m.kd.hash k) c q)
    have found := go_spec t R.tab.ris R.tab.dm (fun i => (es[i]?.map (·.1)).getD 0) (m.kd.hash k) (10 * SetTable.turns t.mask) (N - c) (stp t (m.kd.hash k) c) (stp_clean t _ c) (by omega)
      (fun q hq => by rw [hj]; exact hfull _ (by omega)) (by rw [hj, Nat.add_sub_cancel' hc]; exact hfree)
    rw [setSearchFrom_succ]
    refine wpAny_bind (wpAny_setState_of ho hd R.fits ?_)
    dsimp only
    refine wp_if_neg (odd_mask R) ?_
    try refine wpAny_bind (wpAny_pure ?_)
    rcases found with ⟨q, i, hq, hi, _, before, pr⟩ | ⟨none_eq, pr⟩
    · have pr' : t.probe (fun i => (es[i]?.map (·.1)).getD 0) (m.kd.hash k) (st.getD (t.probeStart (m.kd.hash k))) = some (.candidate (way t.mask (m.kd.hash k) (c + q)) i (stp t (m.kd.hash k) (c + (q + 1)))) := by
        rw [hst, ← hj, ← stp_add]
        exact pr
      rw [hj] at hi
      rw [pr']
      dsimp only
      obtain ⟨p, hp⟩ : ∃ p, L[i]? = some p := by
        have z1 := (List.getElem?_eq_some_iff.mp hi).1
        have z2 := R.tab.sz
        rw [hshs_len] at z2
        rw [Array.length_toList] at z1
        exact ⟨_, List.getElem?_eq_getElem (by omega)⟩
      have hpm := List.mem_of_getElem? hp
      have hslot : t.slot (way t.mask (m.kd.hash k) (c + q)) = .live i := slot_live R.tab.ris hi
      have behind : wpAny (model P w) A (searchRest a (.ref x) (m.kd.hash k) true f es t (way t.mask (m.kd.hash k) (c + q)) i (stp t (m.kd.hash k) (c + (q + 1)))) Q E s := by
        unfold searchRest
        rw [rows_at R.row hp]
        dsimp only
        refine wpAny_bind (wpAny_holding (m.kd.eqBool hu (R.key p hpm) hx ?_))
        refine wpAny_bind (wpAny_setState_of ho hd R.fits ?_)
        dsimp only
        by_cases e : p.2 = k
        · exact wp_if_pos (by simp [e]) (wpAny_pure (q1 (List.mem_map.mpr ⟨p, hpm, e⟩)))
        · refine wp_if_neg (by simp [e]) ?_
          try refine wpAny_bind (wpAny_pure ?_)
          rw [sameMem]
          dsimp only
          simp only [if_true, hslot, rows_at R.row hp]
          refine wpAny_bind (wpAny_isSame_ref_self (wpAny_bind (wpAny_pure ?_)))
          simp only [if_true]
          refine wp_if_neg (by simp [e]) (look_from R hx hu hN hfree hfull q1 q2 f (c + (q + 1)) _ rfl (by omega) (by omega) fun j r hr er => ?_)
          obtain ⟨d, d1, d2, d3⟩ := hre j r hr er
          refine ⟨d, Classical.byContradiction fun z => ?_, d2, d3⟩
          by_cases hd' : d = c + q
          · rw [hd'] at d3
            have := slot_live R.tab.ris d3
            rw [hslot] at this
            injection this with this
            rw [← this, hp] at hr
            exact e (by rw [Option.some.inj hr]; exact er)
          · refine before (d - c) j (by omega) (by rw [hj, Nat.add_sub_cancel' d1]; exact d3) ?_
            exact (hL hr).trans (congrArg m.kd.hash er)
      by_cases hl : t.led = true
      · refine wp_if_neg (by simp [hl]) ?_
        try refine wpAny_bind (wpAny_pure ?_)
        exact behind
      · refine wp_if_pos (by simp [hl]) (wpAny_bind (unseen hx (fun y hy => ?_) ?_))
        · obtain ⟨u, hu1, rfl⟩ := List.mem_map.mp hy
          have hu2 : u ∈ es.toList := by
            have := hu1
            simp only [Array.mem_toList_iff, Array.mem_filter] at this
            exact Array.mem_toList_iff.mpr this.1
          rw [R.row] at hu2
          obtain ⟨r, hr, rfl⟩ := List.mem_map.mp hu2
          exact ⟨r.1, r.2, rfl, R.key r hr⟩
        · refine wp_if_neg (by decide) ?_
          try refine wpAny_bind (wpAny_pure ?_)
          exact behind
    · have pr' : t.probe (fun i => (es[i]?.map (·.1)).getD 0) (m.kd.hash k) (st.getD (t.probeStart (m.kd.hash k))) = some (.empty (way t.mask (m.kd.hash k) N) none) := by
        have e : way t.mask (m.kd.hash k) N = (nth t.mask (stp t (m.kd.hash k) c) (N - c)).j := by rw [hj, Nat.add_sub_cancel' hc]
        rw [hst, e]
        exact pr
      rw [pr']
      dsimp only
      refine wpAny_pure (q2 fun hm => ?_)
      obtain ⟨r, hr, er⟩ := List.mem_map.mp hm
      obtain ⟨j, hj'⟩ := List.mem_iff_getElem?.mp hr
      obtain ⟨d, d1, d2, d3⟩ := hre j r hj' er
      refine none_eq (d - c) j (by omega) (by rw [hj, Nat.add_sub_cancel' d1]; exact d3) ?_
      exact (hL hj').trans (congrArg m.kd.hash er)
/-- the search, whole -/
theorem look (R : SetM m s.heap a L es ep t) {x : Addr} {k : K} (hx : m.kd.is s.heap k x) (hu : m.kd.room A) {Q : SetFound → Shared → Prop} (q1 : k ∈ L.map Prod.snd → Q (.there none) s)
    (q2 : ∀ N, k ∉ L.map Prod.snd → way t.mask (m.kd.hash k) N ∉ t.place.toList → (∀ c, c < N → way t.mask (m.kd.hash k) c ∈ t.place.toList) → Q (.free (way t.mask (m.kd.hash k) N) false) s) :
    wpAny (model P w) A (setSearch a (.ref x) (m.kd.hash k) true) Q E s := by
  have room := R.rm
  obtain ⟨N, n1, n2, n3⟩ := R.tab.first (by rw [hshs_len]; omega) (m.kd.hash k)
  have big : 10 * SetTable.turns t.mask ≤ 1420 := by
    unfold SetTable.turns
    rcases R.tab.mok with e | e | e <;> omega
  unfold setSearch
  refine look_from R hx hu n1 n2 n3 q1 (fun z => q2 N z n2 n3) 100000 0 none rfl (Nat.zero_le _) (by omega) fun i p hp e => ?_
  have hh : (hshs m L)[i]? = some (m.kd.hash k) := by unfold hshs; rw [List.getElem?_map, hp, Option.map_some, e]
  have hi : i < t.place.toList.length := by
    have z1 := (List.getElem?_eq_some_iff.mp hp).1
    have z2 := R.tab.sz
    rw [hshs_len] at z2
    rw [Array.length_toList]
    omega
  obtain ⟨d, d1, d2⟩ := R.tab.before n2 hh (List.getElem?_eq_getElem hi)
  exact ⟨d, Nat.zero_le _, d1, by rw [List.getElem?_eq_getElem hi, d2]⟩
end
section
variable {P : Program} {w : World} {K : Type} [DecidableEq K]
/-- what has come of the first i -/
structure From (bs : List (Addr × K)) (i : Nat) (L : List (Addr × K)) : Prop where
  sub : ∀ p ∈ L, p ∈ bs
  all : ∀ p ∈ bs.take i, p.2 ∈ L.map Prod.snd
  len : L.length ≤ i
theorem From.nil (bs : List (Addr × K)) : From bs 0 [] := ⟨(fun p h => by cases h), (fun p h => by simp at h), Nat.le_refl _⟩
theorem From.new {bs L L' : List (Addr × K)} {i : Nat} {x : Addr × K} (g : From bs i L) (h : bs[i]? = some x) (pm : L'.Perm (x :: L)) : From bs (i + 1) L' :=
  ⟨fun p hp => by
    rcases List.mem_cons.mp (pm.mem_iff.mp hp) with rfl | z
    · exact List.mem_of_getElem? h
    · exact g.sub p z, fun p hp => by
    rw [(pm.map Prod.snd).mem_iff, List.map_cons]
    rw [List.take_add_one, h] at hp
    rcases List.mem_append.mp hp with z | z
    · exact List.mem_cons_of_mem _ (g.all p z)
    · rw [List.mem_singleton.mp z]; exact List.mem_cons_self, by rw [pm.length_eq, List.length_cons]; exact Nat.succ_le_succ g.len⟩
variable {m : SK P w K} {A : Around}
theorem SetM.keep {h h' : Heap} {a : Addr} {L : List (Addr × K)} {es : Array (Int × Value)} {ep : Nat} {t : SetTable} (R : SetM m h a L es ep t) (ha : ∀ o, h.get? a = some o → h'.get? a = some o) (hk : ∀ p ∈ L, m.kd.is h' p.2 p.1) : SetM m h' a L es ep t :=
  ⟨let ⟨o, ho, r⟩ := R.obj; ⟨o, ha o ho, r⟩, R.row, R.tab, R.dis, hk, R.ord, R.rm, R.lt⟩
variable {R : Result → Shared → Prop} {I : Addr} {fp wr : List Addr} {G : Array GenState → Array GenState → Prop} {n : Nat} {Pv : Nat → Value → Prop} {St : Nat → Shared → Prop}
variable {E : Value → Shared → Prop} {s : Shared}
end
end L3
namespace L3
open PySem PySem.Spec PyProof.Rows PySem.W PySem.Calls PySem.SeqAt
section
variable {prog : Program} {w : World} {A : Around} {E : Value → Shared → Prop} {s : Shared}
theorem each_right {α β : Type} {R : α → β → Prop} : ∀ {as : List α} {bs : List β}, EachIs R as bs → ∀ b ∈ bs, ∃ a ∈ as, R a b
  | _, _, .nil, b, h => by cases h
  | _, _, .cons h t, b, hb => by
    rcases List.mem_cons.mp hb with rfl | hb
    · exact ⟨_, List.mem_cons_self, h⟩
    · obtain ⟨a, ha, r⟩ := each_right t b hb
      exact ⟨a, List.mem_cons_of_mem _ ha, r⟩
/-- tuple's own __lt__, asked by the sort -/
theorem tup_lt_call {Q : Value → Shared → Prop} {l b : Addr} {u v : Array Value} {e r : Nat → Bool} (hl : s.heap.IsTuple l u) (hb : s.heap.IsTuple b v)
    (he : ∀ j (h1 : j < u.size) (h2 : j < v.size), EqAt A.in1 s u[j] v[j] (e j)) (hr : ∀ j (h1 : j < u.size) (h2 : j < v.size), e j = false → RcLt A.in1 s u[j] v[j] (r j))
    (q : Q (.bool (firstLt e r (decide (u.size < v.size)) (List.range (min u.size v.size)))) s) : wpAny (model prog w) A (call (.builtin "tuple.__lt__") [.ref l, .ref b]) Q E s := by
  obtain ⟨⟨k1, d1, a1, t1⟩, ho, h1, n, h2⟩ := hl
  obtain ⟨⟨k2, d2, a2, t2⟩, ho', h1', n', h2'⟩ := hb
  dsimp only at h1 h2 h1' h2'
  subst h1 h2 h1' h2'
  exact call_meets F.slot_tuple_lt ⟨_, ho, rfl⟩ F.entry_tuple_lt (F.args_tuple_lt_2 _ _) (tuple_ltAt l b u v n n' d1 d2 t1 t2 e r) ⟨ho, ho', he, hr, q⟩
/-- one tuple against another, the sort knowing that all are tuples or not -/
theorem tup_one {f : Bool} {xs ys : List PyData} {a b : Value} {as bs : List Addr} {Q : Bool → Shared → Prop} (ra : Reads s.heap a (.tuple xs) as) (rb : Reads s.heap b (.tuple ys) bs) (h : alikeAll xs ys = true)
    (hu : A.units + min (PyData.tuple xs).depth (PyData.tuple ys).depth < cLine) (hq : Q (dataLt (.tuple xs) (.tuple ys)) s) : wpAny (model prog w) A (oneLt' f a b) Q E s := by
  have hal : alike (.tuple xs) (.tuple ys) = true := by simpa [alike] using h
  cases f with
  | false => exact oneLt_alike (fun z => by cases z) ra rb hal (fun z => by cases z) hu hq
  | true =>
    cases ra with
    | @tuple l o vs n _ as₁ g1 g2 g3 g4 =>
      cases rb with
      | @tuple l' o' vs' n' _ bs₁ k1 k2 k3 k4 =>
        have z1 : vs.size = xs.length := by simpa using ReadsAll.length _ _ _ g4
        have z2 : vs'.size = ys.length := by simpa using ReadsAll.length _ _ _ k4
        rw [dataLt_tuple, ← firstLt_toks xs ys h, ← z1, ← z2] at hq
        rw [oneLt'_eq]
        simp only [if_true]
        refine wpAny_bind (wpAny_cRoomFor (room_here hu) ?_)
        refine wpAny_bind (wpAny_callSpecialIfBound?_slot (T := "tuple") ⟨_, g1, g2⟩ F.slot_tuple_lt (tup_lt_call (e := pairEq xs ys) (r := fun j => dataLt (xs.getD j .none) (ys.getD j .none)) ⟨_, g1, g2, _, g3⟩ ⟨_, k1, k2, _, k3⟩ (fun j j1 j2 => ?_) (fun j j1 j2 hj => ?_) ?_))
        · rw [← Array.getElem_toList, ← Array.getElem_toList]
          exact eqAt_alikeAll xs ys A.in1 s vs.toList vs'.toList _ _ g4 k4 h (room_in hu) j (by simpa using j1) (by simpa using j2)
        · rw [← Array.getElem_toList, ← Array.getElem_toList]
          exact rcLt_alikeAll xs ys A.in1 s vs.toList vs'.toList _ _ g4 k4 h (room_in hu) j (by simpa using j1) (by simpa using j2) hj
        · exact wpAny_truthy_bool hq
/-- a tuple's first item -/
def headOf (h : Heap) : Value → Option Value
  | .ref a => match h.get? a with
    | some o => match o.data with
      | .seq xs _ => xs[0]?
      | _ => none
    | none => none
  | _ => none
theorem heads {M : Model} : ∀ (vs : List Value) {Q : List (Option Value) → Shared → Prop}, (∀ v ∈ vs, ∃ a xs, v = .ref a ∧ s.heap.IsTuple a xs) → Q (vs.map (headOf s.heap)) s → wpAny M A (vs.mapM firstOfTuple') Q E s
  | [], _, _, q => by rw [List.mapM_nil]; exact wpAny_pure q
  | v :: vs, Q, h, q => by
    obtain ⟨a, xs, rfl, o, ho, hc, n, hd⟩ := h v List.mem_cons_self
    rw [List.mapM_cons]
    refine wpAny_bind ?_
    rw [kas_first_eq]
    refine wpAny_bind (wpAny_typeOf ⟨o, ho, hc⟩ ?_)
    rw [if_neg (by simp)]
    refine wpAny_bind (listItems_at ho hd (wpAny_pure ?_))
    refine wpAny_bind (heads vs (fun v hv => h v (List.mem_cons_of_mem _ hv)) (wpAny_pure ?_))
    have e : headOf s.heap (.ref a) = xs[0]? := by unfold headOf; dsimp only; rw [ho]; dsimp only; rw [hd]
    rw [List.map_cons, e] at q
    exact q
theorem SortsAt.tups {vs : List Value} {ds : List PyData} (e : EachIs (fun v d => ∃ as, Reads s.heap v d as) vs ds) (hal : AllAlike ds) (ht : ∀ d ∈ ds, ∃ xs, d = .tuple xs) (hu : ∀ d ∈ ds, A.units + d.depth < cLine) :
    SortsAt prog w A s (dataKind s.heap ds) vs := by
  by_cases hne : ∀ d ∈ ds, ∃ x r, d = .tuple (x :: r)
  · exact SortsAt.data e hal (.inl hne) hu
  · have room : ∀ {d d' : PyData}, d ∈ ds → A.units + min d.depth d'.depth < cLine := fun {d d'} hd => Nat.lt_of_le_of_lt (Nat.add_le_add_left (Nat.min_le_left _ _) _) (hu d hd)
    have ltA : ∀ (f : Bool) (E : Value → Shared → Prop) (x y : Value) (a b : (dataKind s.heap ds).α) {Q : Bool → Shared → Prop}, (dataKind s.heap ds).keyOf x = some a → (dataKind s.heap ds).keyOf y = some b → Q ((dataKind s.heap ds).blt a b) s → wpAny (model prog w) A (oneLt' f x y) Q E s := fun f E x y a b Q ha hb hq => by
      obtain ⟨d, as, hd, ra, rfl⟩ := dataKind_inv ha
      obtain ⟨d', as', hd', rb, rfl⟩ := dataKind_inv hb
      have hdd := hal d hd d' hd'
      have hr := room (d' := d') hd
      obtain ⟨xs, rfl⟩ := ht d hd
      obtain ⟨ys, rfl⟩ := ht d' hd'
      exact tup_one ra rb (by simpa [alike] using hdd) hr hq
    have isT : ∀ v ∈ vs, ∃ a xs, v = .ref a ∧ s.heap.IsTuple a xs := fun v hv => by
      obtain ⟨d, hd, as, r⟩ := e.left v hv
      obtain ⟨xs, rfl⟩ := ht d hd
      cases r with
      | @tuple l o us n _ _ g1 g2 g3 g4 => exact ⟨l, us, rfl, o, g1, g2, n, g3⟩
    have some_none : ((vs.map (headOf s.heap)).all (·.isSome)) = false := by
      obtain ⟨d, hd⟩ := Classical.not_forall.mp hne
      obtain ⟨hd, hx⟩ := Classical.not_imp.mp hd
      obtain ⟨xs, rfl⟩ := ht d hd
      cases xs with
      | cons x r => exact absurd ⟨x, r, rfl⟩ hx
      | nil =>
        obtain ⟨v, hv, as, r⟩ := each_right e _ hd
        rw [List.all_eq_false]
        refine ⟨headOf s.heap v, List.mem_map.mpr ⟨v, hv, rfl⟩, ?_⟩
        cases r with
        | @tuple l o us n _ _ g1 g2 g3 g4 =>
          have z : us.size = 0 := by simpa using ReadsAll.length _ _ _ g4
          have e0 : headOf s.heap (.ref l) = us[0]? := by unfold headOf; dsimp only; rw [g1]; dsimp only; rw [g3]
          rw [e0, Array.getElem?_eq_none (by omega)]
          simp
    refine ⟨fun v hv => ?_, ?_⟩
    · obtain ⟨d, hd, as, r⟩ := e.left v hv
      exact ⟨_, dataKind_some hal hd r⟩
    · cases hf : ((vs.map (headOf s.heap))[0]?.bind id).isSome with
      | true =>
        refine ⟨general', fun E x y a b Q ha hb hq => ltA false E x y a b ha hb hq, fun h2 E Q hq => ?_⟩
        rw [keyKind'_eq, List.mapM_toArray, map_eq_pure_bind]
        refine wpAny_bind (wpAny_bind (heads vs isT (wpAny_pure ?_)))
        rw [if_neg (by simpa using some_none), if_pos (by simpa using hf)]
        exact wpAny_pure hq
      | false =>
        refine ⟨oneType', fun E x y a b Q ha hb hq => by rw [keyLt'_oneType]; exact ltA true E x y a b ha hb hq, fun h2 E Q hq => ?_⟩
        rw [keyKind'_eq, List.mapM_toArray, map_eq_pure_bind]
        refine wpAny_bind (wpAny_bind (heads vs isT (wpAny_pure ?_)))
        rw [if_neg (by simpa using some_none), if_neg (by simpa using hf)]
        rw [oneTypeOnly'_eq, List.mapM_toArray, map_eq_pure_bind]
        refine wpAny_bind (wpAny_bind (wpAny_bind (kas_mapM (r := Value.type "tuple") _ (fun v hv Q' hq' => ?_) (wpAny_pure ?_))))
        · obtain ⟨a, xs, rfl, o, ho, hc, n, hd⟩ := isT v hv
          exact wpAny_typeOf ⟨o, ho, hc⟩ hq'
        · cases vs with
          | nil => exact absurd h2 (by simp)
          | cons v rest =>
            have h0 : ((v :: rest).map fun _ => Value.type "tuple").toArray[0]? = some (Value.type "tuple") := by simp
            have h3 : ((v :: rest).map fun _ => Value.type "tuple").toArray.all (fun x => x == Value.type "tuple") = true := by simp
            rw [h0]
            simp only [h3, if_true]
            exact wpAny_pure (wpAny_pure hq)
/-- sorted(x), x anything whose items are tuples of one shape -/
theorem sorted_tups_of {β : Type} {x : Value} {Pv : List Value → List β → Prop} {R : Value → β → Prop} {enc : β → PyData} {Q : Value → Shared → Prop}
    (hcol : ∀ (E' : Value → Shared → Prop) (Q' : List Value → Shared → Prop), (∀ s1 vs bs, (∀ b o, s.heap.get? b = some o → s1.heap.get? b = some o) → s1.gens = s.gens → s1.os = s.os → s.heap.objs.size ≤ s1.heap.objs.size → Pv vs bs → Q' vs s1) → wpAny (model prog w) A.in1 (collect x) Q' E' s)
    (hP : ∀ vs bs, Pv vs bs → EachIs R vs bs ∧ EachIs (fun v b => ∃ as, Reads s.heap v (enc b) as) vs bs ∧ AllAlike (bs.map enc) ∧ (∀ d ∈ bs.map enc, ∃ xs, d = .tuple xs) ∧ (∀ d ∈ bs.map enc, A.units + 2 + d.depth < cLine) ∧ vs.length ≤ sizeLine)
    (hQ : ∀ s' p (out : Array Value) c vs bs, (∀ b o, s.heap.get? b = some o → s'.heap.get? b = some o) → s'.gens = s.gens → s'.os = s.os → s.heap.objs.size ≤ p → s'.heap.get? p = some (seqObj "list" out c) → Pv vs bs → EachIs R out.toList (bs.mergeSort (dataLe false enc)) → Q (.ref p) s') :
    wpAny (model prog w) A (call (.builtin "sorted") [x]) Q E s := by
  refine Calls.call_function_entry kind_sorted plain_sorted entry_sorted (args_sorted1 _) ?_
  unfold Builtin.«sorted»
  refine wpAny_bind (m := checkCount "sorted" 1 1 _) (wpAny_pure ?_)
  refine wpAny_bind (hcol _ _ fun s1 vs bs k1 g1 o1 hz hp => ?_)
  obtain ⟨e, er, hal, ht, hu, hL⟩ := hP vs bs hp
  refine wpAny_bind (wpAny_newList ?_ hL)
  have hoL : (s1.heap.push (seqObj "list" vs.toArray 0)).get? s1.heap.objs.size = some (seqObj "list" vs.toArray 0) := Heap.get?_push_size _ rfl
  have kk : ∀ b o, s.heap.get? b = some o → (s1.heap.push (seqObj "list" vs.toArray 0)).get? b = some o := fun b o h => Heap.get?_push_of_some _ (k1 b o h)
  have lt : ∀ b o, s.heap.get? b = some o → b ≠ s1.heap.objs.size := fun b o h => Nat.ne_of_lt (Nat.lt_of_lt_of_le (Heap.lt_size h) hz)
  have er' : EachIs (fun v b => ∃ as, Reads (sortingHeap (s1.heap.push (seqObj "list" vs.toArray 0)) s1.heap.objs.size vs) v (enc b) as) vs bs := er.mono fun _ _ ⟨as, r⟩ => ⟨as, PyProof.Rows.Reads.keeps (fun b o h => sortingHeap_old (lt b o h) (kk b o h)) r⟩
  refine wpAny_bind (wpAny_holding (wpAny_call_entry slot_list_sort ⟨_, hoL, rfl⟩ entry_list_sort (list_sort_vals (s := { s1 with heap := s1.heap.push (seqObj "list" vs.toArray 0) }) hoL (SortsAt.tups (each_map (R := fun v d => ∃ as, Reads (sortingHeap (s1.heap.push (seqObj "list" vs.toArray 0)) s1.heap.objs.size vs) v d as) enc er') hal ht hu) hL ⟨_, rfl, ?_⟩) (args_list_sort _)))
  obtain ⟨c, hc⟩ := sortedHeap_at (vs := vs) (out := (sortVals (dataKind (sortingHeap (s1.heap.push (seqObj "list" vs.toArray 0)) s1.heap.objs.size vs) (bs.map enc)) false vs vs).toArray) hoL
  refine wpAny_pure ⟨_, rfl, hQ _ s1.heap.objs.size _ c vs bs (fun b o h => ?_) g1 o1 hz hc hp ?_⟩
  · have := kk b o h
    show (sortedHeap _ _ _ _).get? b = some o
    rw [sortedHeap_old (lt b o h) (Heap.lt_size this)]
    exact this
  · exact sortVals_data false e er' hal
end
end L3
namespace L3
open PySem PySem.Spec PyProof.Rows L2
open PySem.W (EachIs AllAlike dataLe alike dataLt)
section
variable {P : Program} {w : World} {A : Around} {E : Value → Shared → Prop} {s : Shared}
theorem strs_are {k : List Str} {vs : List Value} (h : ItemsAre (PySem.strKind P w) k vs) : ∀ v ∈ vs, ∃ x t, v = Value.str x t := by
  induction h with
  | nil => intro v hv; cases hv
  | @cons x u ks us h1 _ ih =>
    intro v hv
    rcases List.mem_cons.mp hv with rfl | hv
    · obtain ⟨t, e⟩ := Value.isStrOf_shape h1
      exact ⟨x, t, e⟩
    · exact ih v hv
theorem str_noclass (n : Nat) (x : Str) (t : Tok) : ofAClassStatement n (.str x t) = pure false := by cases n <;> rfl
theorem str_byvalue (n : Nat) (x : Str) (t : Tok) : hashByValue n (.str x t) = pure false := by cases n <;> rfl
theorem tup_noclass {k : List Str} {b : Addr} {Q : Bool → Shared → Prop} (hk : IsTupleKey (PySem.strKind P w) s.heap k b) (q : Q false s) : wpAny (model P w) A (ofAClassStatement 8 (.ref b)) Q E s := by
  have ty := hk.typeIs
  obtain ⟨o, its, n, ho, _, hd, hi⟩ := hk
  unfold ofAClassStatement
  refine wpAny_bind (wpAny_typeOf ty ?_)
  dsimp only
  simp only [show (("tuple" : String) == "tuple") = true by decide, if_true, Bool.not_true, Bool.false_eq_true, if_false]
  try refine wpAny_bind (wpAny_pure ?_)
  try simp only [Bool.not_true, Bool.false_eq_true, if_false]
  show wpAny _ _ (seqItems? (.ref b) >>= _) _ _ s
  refine wpAny_bind (wpAny_seqItems ho hd ?_)
  dsimp only
  refine wpAny_bind ?_
  show wpAny _ _ (forIn its _ _) _ _ s
  rw [← Array.forIn_toList]
  refine wpAny_forIn_list _ (fun l r s' => r.1 = none ∧ s' = s ∧ ∀ v ∈ l, ∃ x t, v = Value.str x t) _ (fun v l r s' i => ?_) (fun r s' i => ?_) _ _ ⟨rfl, rfl, strs_are hi⟩
  · obtain ⟨_, rfl, al⟩ := i
    obtain ⟨x, t, rfl⟩ := al v List.mem_cons_self
    rw [str_noclass]
    refine wpAny_bind (wpAny_pure ?_)
    simp only [Bool.false_eq_true, if_false]
    exact wpAny_pure ⟨rfl, rfl, fun u hu => al u (List.mem_cons_of_mem _ hu)⟩
  · obtain ⟨r1, r2⟩ := r
    obtain ⟨e, rfl, _⟩ := i
    dsimp only at e
    subst e
    exact wpAny_pure q
theorem tup_byvalue {k : List Str} {b : Addr} {Q : Bool → Shared → Prop} (hk : IsTupleKey (PySem.strKind P w) s.heap k b) (q : ∀ c, Q c s) : wpAny (model P w) A (hashByValue 8 (.ref b)) Q E s := by
  have ty := hk.typeIs
  obtain ⟨o, its, n, ho, _, hd, hi⟩ := hk
  unfold hashByValue
  refine wpAny_bind (wpAny_specialOf ty PySem.F.slot_tuple_hash.lookup ?_)
  show wpAny _ _ (seqItems? (.ref b) >>= _) _ _ s
  refine wpAny_bind (wpAny_seqItems ho hd ?_)
  refine wpAny_bind ?_
  show wpAny _ _ (forIn its _ _) _ _ s
  rw [← Array.forIn_toList]
  refine wpAny_forIn_list _ (fun l r s' => r.1 = none ∧ s' = s ∧ ∀ v ∈ l, ∃ x t, v = Value.str x t) _ (fun v l r s' i => ?_) (fun r s' i => ?_) _ _ ⟨rfl, rfl, strs_are hi⟩
  · obtain ⟨_, rfl, al⟩ := i
    obtain ⟨x, t, rfl⟩ := al v List.mem_cons_self
    rw [str_byvalue]
    refine wpAny_bind (wpAny_pure ?_)
    simp only [Bool.not_false, if_true]
    exact wpAny_pure (wpAny_pure (q false))
  · obtain ⟨r1, r2⟩ := r
    obtain ⟨e, rfl, _⟩ := i
    dsimp only at e
    subst e
    exact wpAny_pure (q true)
end
def txK (P : Program) (w : World) : SK P w (List Str) where
  kd := tupleKind (PySem.strKind P w)
  ofc := tup_noclass
  hbv := tup_byvalue
  stays := fun x k => tupleKind_stays.stays k x
/-- a tuple of texts as data -/
def dS (k : List Str) : PyData := .tuple (k.map .str)
theorem strs_alike : ∀ k l : List Str, PySem.W.alikeAll (k.map .str) (l.map .str) = true
  | [], [] => rfl
  | [], _ :: _ => rfl
  | _ :: _, [] => rfl
  | x :: k, y :: l => by
    rw [List.map_cons, List.map_cons, PySem.W.alikeAll, strs_alike k l]
    rfl
theorem dS_alike (k l : List Str) : alike (dS k) (dS l) = true := by
  unfold dS
  simpa [alike] using strs_alike k l
theorem strs_depth : ∀ k : List Str, PyData.depthAll (k.map .str) = 0
  | [] => rfl
  | x :: k => by
    rw [List.map_cons, PyData.depthAll, strs_depth k]
    rfl
theorem dS_depth (k : List Str) : (dS k).depth ≤ 1 := by
  unfold dS
  rw [PyData.depth, strs_depth]
  omega
section
variable {X : Cx} {pins : List (Addr × Obj)} {σ : L2.St} {H : Hp} {s : Shared}
theorem items_strs : ∀ {xs : List V} {us : List Value} {k : List Str}, Vals xs us → DpAll X.K H xs (k.map .str) → ItemsAre (PySem.strKind X.prog X.w) k us
  | [], [], [], _, _ => .nil
  | x :: xs, u :: us, y :: k, .cons r rs, .cons h hs => by
    cases h
    obtain ⟨t, rfl⟩ := r
    exact .cons (by simp [PySem.strKind, Value.isStrOf]) (items_strs rs hs)
  | [], [], y :: k, _, h => by cases h
  | x :: xs, u :: us, [], _, h => by cases h
theorem isS (I : L2.Inv X pins σ H s) {b : Addr} {k : List Str} (h : Dp X.K H (.ref b) (dS k)) : IsTupleKey (PySem.strKind X.prog X.w) s.heap k b := by
  obtain ⟨a, xs, e, hs, ha⟩ := dp_tuple h
  cases e
  obtain ⟨its, rv, ⟨o, ho, hc, n, hd⟩, _⟩ := I.tuple hs
  exact ⟨o, its.toArray, n, ho, hc, hd, by simpa using items_strs rv ha⟩
end
def SetM0 (P : Program) (w : World) (h : Heap) (a : Addr) (L : List (Addr × List Str)) : Prop :=
  ∃ (es : Array (Int × Value)) (ep : Nat) (t : SetTable), (∃ o, h.get? a = some o ∧ o.ExactSet ∧ o.data = .set es ep t) ∧ es.toList = mems (txK P w) L ∧ TabOk t (hshs (txK P w) L) ∧ (L.map Prod.snd).Nodup ∧
    (w.params.followText "set-order" = true ∨ t.led = true) ∧ L.length * 5 < t.mask * 3 ∧ L.length < 64
theorem SetM.bare {P : Program} {w : World} {h : Heap} {a : Addr} {L : List (Addr × List Str)} {es : Array (Int × Value)} {ep : Nat} {t : SetTable} (R : SetM (txK P w) h a L es ep t) : SetM0 P w h a L :=
  ⟨es, ep, t, R.obj, R.row, R.tab, R.dis, R.ord, R.rm, R.lt⟩
section
variable {X : Cx}
theorem refs_vals : ∀ {bs : List (Addr × List Str)} {us : List Value}, Vals (bs.map fun p => V.ref p.1) us → us = bs.map fun p => Value.ref p.1
  | [], _, .nil => rfl
  | p :: bs, _, .cons r t => by
    cases r
    rw [refs_vals t]
    rfl
theorem each_refs {H : Hp} {pins : List (Addr × Obj)} {σ : L2.St} {s : Shared} (I : L2.Inv X pins σ H s) : ∀ {bs : List (Addr × List Str)}, (∀ p ∈ bs, Dp X.K H (.ref p.1) (dS p.2)) →
    EachIs (fun u p => u = Value.ref p.1) (bs.map fun p => Value.ref p.1) bs ∧ EachIs (fun v b => ∃ as, Reads s.heap v (dS b.2) as) (bs.map fun p => Value.ref p.1) bs
  | [], _ => ⟨.nil, .nil⟩
  | p :: bs, h => by
    obtain ⟨e1, e2⟩ := each_refs I (bs := bs) fun q hq => h q (List.mem_cons_of_mem _ hq)
    exact ⟨.cons rfl e1, .cons (Dp.reads I _ _ _ (h p List.mem_cons_self) rfl) e2⟩
theorem each_back : ∀ {us : List Value} {bs : List (Addr × List Str)}, EachIs (fun u p => u = Value.ref p.1) us bs → us = bs.map fun p => Value.ref p.1
  | _, _, .nil => rfl
  | _, _, .cons h t => by rw [h, each_back t, List.map_cons]
/-- the products (as texts) in their order -/
def srtS (bs : List (Addr × List Str)) : List (Addr × List Str) := bs.mergeSort (dataLe false fun p => dS p.2)
theorem sorted_srt (hc : X.calm = true) (hu : X.A.units + 64 < cLine) {pins : List (Addr × Obj)} {s : Shared} {σ : L2.St} {H : Hp} (I : L2.Inv X pins σ H s) {x : Value} {Pb : List (Addr × List Str) → Prop}
    (hcol : ∀ (E' : Value → Shared → Prop) (Q' : List Value → Shared → Prop), (∀ s1 bs, (∀ b o, s.heap.get? b = some o → s1.heap.get? b = some o) → s1.gens = s.gens → s1.os = s.os → s.heap.objs.size ≤ s1.heap.objs.size → Pb bs → Q' (bs.map fun p => Value.ref p.1) s1) → wpAny (model X.prog X.w) X.A.in1 (collect x) Q' E' s)
    (hP : ∀ bs, Pb bs → (∀ p ∈ bs, Dp X.K H (.ref p.1) (dS p.2)) ∧ bs.length ≤ sizeLine) {Q : VK} {E : Value → Shared → Prop}
    (q : ∀ bs p, Pb bs → H p = none → Q (.ref p) (upd H p (.lst ((srtS bs).map fun p => V.ref p.1)))) :
    wpAny (model X.prog X.w) X.A (call (.builtin "sorted") [x]) (EP X pins σ Q) E s := by
  refine sorted_tups_of (Pv := fun vs bs => Pb bs ∧ vs = bs.map fun p => Value.ref p.1) (R := fun u p => u = Value.ref p.1) (enc := fun p => dS p.2) (fun E' Q' k => hcol E' Q' fun s1 bs h1 h2 h3 h4 h5 => k s1 _ bs h1 h2 h3 h4 ⟨h5, rfl⟩) (fun vs bs h => ?_) (fun s' p out c vs bs k g o hp hg h e => ?_)
  · obtain ⟨h, rfl⟩ := h
    obtain ⟨h1, h2⟩ := hP bs h
    obtain ⟨e1, e2⟩ := each_refs I h1
    refine ⟨e1, e2, AllAlike.of fun b b' => dS_alike _ _, fun d hd => ?_, fun d hd => ?_, by rw [List.length_map]; exact h2⟩
    · obtain ⟨b, _, rfl⟩ := List.mem_map.mp hd
      exact ⟨_, rfl⟩
    · obtain ⟨b, _, rfl⟩ := List.mem_map.mp hd
      have := dS_depth b.2
      omega
  · obtain ⟨h, rfl⟩ := h
    obtain ⟨h1, h2⟩ := hP bs h
    have hn : H p = none := I.hok.fresh hp
    have hout : out.toList = (srtS bs).map fun p => Value.ref p.1 := each_back e
    have hl : ((srtS bs).map fun p => V.ref p.1).length ≤ sizeLine := by unfold srtS; rw [List.length_map, List.length_mergeSort]; exact h2
    have rv : ∀ l : List (Addr × List Str), Vals (l.map fun p => V.ref p.1) (l.map fun p => Value.ref p.1) := fun l => by
      induction l with
      | nil => exact .nil
      | cons x l ih => exact .cons rfl ih
    have J : Inv X pins σ (upd H p (.lst ((srtS bs).map fun p => V.ref p.1))) { s with heap := s'.heap, gens := s'.gens, drawn := s'.drawn, toks := s'.toks } :=
      I.call (ch := []) (Un.laid k hp hn) (I.hok.laid k hp ⟨hl, out.toList, c, by rw [hout]; exact rv _, hg⟩) (by rw [g]; exact I.bare) (fun _ z => nomatch z)
    have e' : s' = { s with heap := s'.heap, gens := s'.gens, drawn := s'.drawn, toks := s'.toks } := by
      cases s'
      cases s
      cases o
      rfl
    rw [e']
    exact ⟨.ref p, _, J, rfl, q bs p h hn⟩
/-- sorted(list of tuples of texts) -/
theorem cr_sortTL (hc : X.calm = true) (hu : X.A.units + 64 < cLine) : CallR X (.builtin "sorted") (fun vs H Q => ∃ (l : Addr) (bs : List (Addr × List Str)), vs = [.ref l] ∧ SqL X.K H l (bs.map fun p => V.ref p.1) ∧ (∀ p ∈ bs, Dp X.K H (.ref p.1) (dS p.2)) ∧
    ∀ p, H p = none → Q (.ref p) (upd H p (.lst ((srtS bs).map fun p => V.ref p.1)))) := by
  intro pins s σ H vs us Q I r h
  obtain ⟨l, bs, rfl, hl, hd, q⟩ := h
  rw [Vals.ref1 r]
  obtain ⟨its, rv, pl, hz⟩ := I.list hl
  have hi : its = bs.map fun p => Value.ref p.1 := refs_vals rv
  have hbl : bs.length ≤ sizeLine := by rw [List.length_map] at hz; exact hz
  refine sorted_srt hc hu I (Pb := fun b => b = bs) (fun E' Q' k => ?_) (fun b e => by subst e; exact ⟨hd, hbl⟩) (fun b p e hp => by subst e; exact q p hp)
  subst hi
  refine collect_list pl.isList (k _ _ (fun b o e => ?_) rfl rfl ?_ rfl) (by rw [List.length_map]; exact hbl)
  · rw [Heap.get?_update_ne _ _ _ _ (Nat.ne_of_lt (Heap.lt_size e))]
    exact Heap.get?_push_of_some _ e
  · rw [Heap.size_update, size_push']
    exact Nat.le_succ _
def storeE (es : List EntN) (x : EntN) : List EntN := if (valN es (keyN x.1)).isSome then es.map fun y => if keyN y.1 = keyN x.1 then (y.1, y.2.1, x.2.2) else y else es ++ [x]
theorem KN.store {es : List EntN} {xs : List (NestedKey × Addr × Value)} (r : KN es xs) {p : EntN} {q : NestedKey × Addr × Value} (h : q.1 = keyN p.1 ∧ q.2.1 = p.2.1 ∧ RelV p.2.2 q.2.2) : KN (storeE es p) (storedH xs q.1 q.2.1 q.2.2) := by
  have hv := r.val q.1
  rw [h.1] at hv
  unfold storeE
  cases ea : atKey xs q.1 with
  | none =>
    rw [← h.1] at hv ⊢
    rw [ea] at hv
    have en : valN es q.1 = none := by
      cases ev : valN es q.1 with
      | none => rfl
      | some v => rw [ev] at hv; exact hv.elim
    rw [storedH_new ea, en, if_neg (by simp)]
    exact r.snoc h
  | some pv =>
    rw [← h.1] at hv ⊢
    rw [ea] at hv
    have en : (valN es q.1).isSome = true := by
      cases ev : valN es q.1 with
      | none => rw [ev] at hv; exact hv.elim
      | some v => rfl
    rw [storedH_old ea, if_pos en]
    clear ea hv en
    unfold KN at r ⊢
    induction r with
    | nil => exact .nil
    | @cons y z ys zs hh t ih =>
      refine .cons ?_ ih
      obtain ⟨h1, h2, h3⟩ := hh
      unfold putAt
      dsimp only
      by_cases e : keyN y.1 = q.1
      · rw [if_pos e, if_pos (h1.trans e)]
        exact ⟨h1, h2, h.2.2⟩
      · rw [if_neg e, if_neg (fun w => e (h1.symm.trans w))]
        exact ⟨h1, h2, h3⟩
def storeAll (es ps : List EntN) : List EntN := ps.foldl storeE es
theorem KN.storeAll {ps : List EntN} {qs : List (NestedKey × Addr × Value)} (h : KN ps qs) : ∀ {es : List EntN} {xs : List (NestedKey × Addr × Value)}, KN es xs → KN (storeAll es ps) (storedAllH xs qs) := by
  unfold KN at h
  induction h with
  | nil => intro es xs r; exact r
  | cons hh t ih => intro es xs r; exact ih (r.store hh)
theorem storeE_len (es : List EntN) (x : EntN) : (storeE es x).length ≤ es.length + 1 := by
  unfold storeE
  split
  · rw [List.length_map]; omega
  · rw [List.length_append]; exact Nat.le_refl _
theorem storeAll_len : ∀ (ps es : List EntN), (storeAll es ps).length ≤ es.length + ps.length
  | [], es => Nat.le_refl _
  | x :: ps, es => by
    have := storeAll_len ps (storeE es x)
    have := storeE_len es x
    show (storeAll (storeE es x) ps).length ≤ _
    rw [List.length_cons]
    omega
theorem rel_vals : ∀ {ts : List Addr} {us : List Value}, Vals (ts.map V.ref) us → us = ts.map Value.ref
  | [], _, .nil => rfl
  | t :: ts, _, .cons r h => by
    cases r
    rw [rel_vals h]
    rfl
/-- the pairs as they lie in the list: their tuples ts -/
theorem cr_dictN (hc : X.calm = true) (hu : X.A.units + 64 < cLine) : CallR X (.type "dict") (fun vs H Q => ∃ (l : Addr) (ts : List Addr) (ps : List EntN), vs = [.ref l] ∧ SqL X.K H l (ts.map V.ref) ∧ Paired (fun (t : Addr) (p : EntN) => SqT X.K H t [.ref p.2.1, p.2.2]) ts ps ∧ Keys X.K H ps ∧
    ∀ a, H a = none → Q (.ref a) (upd H a (TN X.prog X.w a (storeAll [] ps)))) := by
  intro pins s σ H vs us Q I r h
  obtain ⟨l, ts, ps, rfl, hl, hp, hk, q⟩ := h
  rw [Vals.ref1 r]
  obtain ⟨its, rv, pl, hz⟩ := I.list hl
  obtain rfl := rel_vals rv
  have hn : ts.length = ps.length := hp.length
  rw [List.length_map] at hz
  have vals : ∀ {ts : List Addr} {ps : List EntN}, Paired (fun (t : Addr) (p : EntN) => SqT X.K H t [.ref p.2.1, p.2.2]) ts ps → ∃ qs : List (NestedKey × Addr × Value), KN ps qs ∧ ∀ (j : Nat) (t : Addr) (q : NestedKey × Addr × Value), ts[j]? = some t → qs[j]? = some q → PairAt s.heap t (.ref q.2.1) q.2.2 := by
    intro ts ps h
    induction h with
    | nil => exact ⟨[], .nil, fun j t q e => by simp at e⟩
    | @cons t p ts ps h1 _ ih =>
      obtain ⟨qs, r1, r2⟩ := ih
      obtain ⟨jt, rt, ⟨o, ho, hcl, n, hd⟩, _⟩ := I.tuple h1
      cases rt with
      | cons ra rb =>
        cases rb with
        | @cons _ u _ _ rc rd =>
          cases rd
          cases ra
          refine ⟨(keyN p.1, p.2.1, u) :: qs, .cons ⟨rfl, rfl, rc⟩ r1, fun j t' q e1 e2 => ?_⟩
          cases j with
          | zero =>
            cases e1
            cases e2
            exact .inl ⟨o, ho, hcl, n, by simpa using hd⟩
          | succ j => exact r2 j t' q e1 e2
  obtain ⟨qs, rq, hat⟩ := vals hp
  have ql : qs.length = ps.length := (show Paired _ _ _ from rq).length.symm
  have keys : ∀ {l : List EntN} {m : List (NestedKey × Addr × Value)}, KN l m → Keys X.K H l → ∀ x ∈ m, (nestedKind X.prog X.w).is s.heap x.1 x.2.1 := by
    intro l m q
    unfold KN at q
    induction q with
    | nil => intro _ x hx; exact nomatch hx
    | @cons p q ps qs hq t ih =>
      intro hz x hx
      rcases List.mem_cons.mp hx with e | hx
      · subst e
        obtain ⟨d1, d2, d3⟩ := hz p List.mem_cons_self
        refine ⟨?_, by rw [hq.1]; exact d3⟩
        rw [hq.1, hq.2.1]
        exact nested_of I p.1 _ _ d1 rfl d2
      · exact ih (fun z hz' => hz z (List.mem_cons_of_mem _ hz')) x hx
  have item : ∀ (j : Nat) (q : NestedKey × Addr × Value), qs[j]? = some q → ∃ t, ts[j]? = some t ∧ PairAt s.heap t (.ref q.2.1) q.2.2 := fun j q e => by
    have hj := (List.getElem?_eq_some_iff.mp e).1
    have ht := List.getElem?_eq_getElem (l := ts) (i := j) (by omega)
    exact ⟨_, ht, hat j _ q ht e⟩
  have il : (ts.map Value.ref).toArray.size = (qs.map fun q => (Value.ref q.2.1, q.2.2)).length := by rw [List.size_toArray, List.length_map, List.length_map]; omega
  refine call_dict_pairsH (knd := nestedKind X.prog X.w) (ps := qs) (PairArg.list l (ts.map Value.ref).toArray (fun j => ts.getD j 0) (qs.map fun q => (Value.ref q.2.1, q.2.2))) (I.ok.hd hc) (by show _ + 8 < cLine; simp; omega)
    ⟨let ⟨o, n, h1, h2, h3, h4⟩ := pl; ⟨o, n, h1, h2, h3, h4⟩, il, fun j k v hj => ?_⟩ ⟨by rw [List.length_map], fun i key v hr => ?_⟩ (fun h' hk' x hx => nestedKind_stays.stays (fun b o vs n e _ => hk' b o (Nat.ne_of_lt (Heap.lt_size e)) (by simp) e) (keys rq hk x hx)) (by rw [List.length_map]; omega) fun h' tk hd k => ?_
  · rw [List.getElem?_map] at hj
    obtain ⟨q, hq, e⟩ := Option.map_eq_some_iff.mp hj
    cases e
    obtain ⟨t, ht, hp⟩ := item j q hq
    have e2 : ts.getD j 0 = t := by rw [List.getD_eq_getElem?_getD, ht]; rfl
    dsimp only
    rw [e2]
    exact ⟨by simp [ht], hp⟩
  · unfold PairRel at hr
    rw [List.getElem?_map] at hr
    obtain ⟨q, hq, e⟩ := Option.map_eq_some_iff.mp hr
    cases e
    exact ⟨q.1, q.2.1, hq, rfl⟩
  · have k' : ∀ b o, s.heap.get? b = some o → h'.get? b = some o := fun b o e => k b o (by simp) e
    have hl2 : (storeAll [] ps).length ≤ sizeLine := Nat.le_trans (storeAll_len ps []) (by rw [List.length_nil]; omega)
    obtain ⟨o, es, ep, ho, hex, hdt, he, _, nd⟩ := hd
    have hb := L2.Inv.big I
    have ns : (s.heap.objs.size == sysModules) = false := by
      simp only [beq_eq_false_iff_ne, ne_eq]
      intro z
      rw [z] at hb
      exact absurd hb (Nat.lt_irrefl _)
    refine ⟨.ref s.heap.objs.size, _, I.laid (a := s.heap.objs.size) (o := TN X.prog X.w s.heap.objs.size (storeAll [] ps)) (t' := tk) k' (Nat.le_refl _) ?_, rfl, q _ (I.hok.fresh (Nat.le_refl _))⟩
    exact ⟨⟨ns, hl2, _, KN.storeAll rq .nil, nd, o, es, ep, ho, hex, hdt, he⟩, ⟨o, ho⟩, fun h1 h2 ⟨a1, a2, ws, a3, a4, q, en, ep, b1, b2⟩ k => ⟨a1, a2, ws, a3, a4, q, en, ep, k _ b1, b2⟩⟩
/-- what is collected from the keys of a dict (the heap grows) -/
theorem coll_src {prog : Program} {w : World} {A : Around} {E : Value → Shared → Prop} {s : Shared} {T : String} {r d : Addr} {n : Nat} {Pk : Nat → Value → Prop} {OK : Heap → Prop} {R : List Value → Shared → Prop} (K : PySem.W.KdlSrc prog w T r d n Pk OK) (hh : A.handled = none) (ok : OK s.heap) (hn : n ≤ sizeLine)
    (q : ∀ (h' : Heap) (tk : Nat) (acc : Array Value), (∀ b o, s.heap.get? b = some o → h'.get? b = some o) → s.heap.objs.size ≤ h'.objs.size → ItemsOf Pk acc n → R acc.toList { s with heap := h', toks := tk }) : wpAny (model prog w) A (collect (.ref r)) R E s := by
  have here := K.there _ ok
  have new : (s.heap.push { cls := .type "list", data := .seq ([] : List Value).toArray }).get? s.heap.objs.size = some { cls := .type "list", data := .seq #[] } := Heap.get?_push_size _ rfl
  unfold collect
  refine wpAny_bind (wpAny_runValue (codeAny_builtin entry_proto_collect' ?_))
  rw [Around.under_plainId PySem.F.plain_proto_collect _]
  show wpAny _ A.in1 (newList [] >>= fun l => again (.builtin "list.__iadd__" ⟨[l, .ref r], []⟩)) _ _ s
  refine wpAny_bind (wpAny_newObj_type (wpAny_pure ⟨plainId_quiet PySem.F.plain_list_iadd _, codeAny_builtin entry_list_iadd' ?_⟩))
  rw [Around.under_plainId PySem.F.plain_list_iadd _]
  show wpAny _ A.in1 (Builtin.List.listExtendWith (.ref s.heap.objs.size) (.ref r) (.ref s.heap.objs.size)) _ _ _
  refine wpAny_mono (PySem.W.kdl_extend (A := A) (s := { s with heap := s.heap.push { cls := .type "list", data := .seq ([] : List Value).toArray } })
    (R := fun (z : Result) (s' : Shared) => ∃ (h' : Heap) (tk : Nat) (acc : Array Value) (c : Nat), z = .ok (.ret (.ref s.heap.objs.size)) ∧ s' = { s with heap := h', toks := tk } ∧ (∀ b o, s.heap.get? b = some o → h'.get? b = some o) ∧
      h'.get? s.heap.objs.size = some { cls := .type "list", dict := none, data := .seq acc c, slots := #[] } ∧ ItemsOf Pk acc n)
    K hh (K.keep _ _ ok fun b _ o e => Heap.get?_push_of_some _ e) s.heap.objs.size (Nat.ne_of_gt here.1) (Nat.ne_of_gt here.2) (.ref s.heap.objs.size) 0 new
    (fun h' tk acc c k hS ha => ⟨h', tk, acc, c, rfl, rfl, fun b o e => k b o (Nat.ne_of_lt (Heap.lt_size e)) (Heap.get?_push_of_some _ e), hS, ha⟩) hn) (fun fin s' x => ?_) fun e s' x => ?_
  · have fin_ : ∀ s2 : Shared, (∃ (h' : Heap) (tk : Nat) (acc : Array Value) (c : Nat), s2 = { s with heap := h', toks := tk } ∧ (∀ b o, s.heap.get? b = some o → h'.get? b = some o) ∧ h'.get? s.heap.objs.size = some { cls := .type "list", dict := none, data := .seq acc c, slots := #[] } ∧ ItemsOf Pk acc n) →
        wpAny (model prog w) A (load s.heap.objs.size >>= fun o => match o.data with | .seq xs _ => pure xs.toList | _ => unsupported "internal:collect") R E s2 := fun s2 ⟨h', tk, acc, c, e, k, hS, ha⟩ => by
      subst e
      exact wpAny_bind (wpAny_load hS (wpAny_pure (q h' tk acc k (Nat.le_of_lt (Heap.lt_size hS)) ha)))
    cases fin with
    | done f =>
      obtain ⟨h', tk, acc, c, e, y⟩ := x
      cases e
      exact fin_ _ ⟨h', tk, acc, c, y⟩
    | again c' =>
      refine ⟨x.1, codeAny_mono x.2 fun z s2 y => ?_⟩
      obtain ⟨h', tk, acc, c, rfl, y⟩ := y
      exact fin_ _ ⟨h', tk, acc, c, y⟩
  · obtain ⟨_, _, _, _, e', _⟩ := x
    cases e'
/-- sorted(dict), its keys tuples of texts -/
theorem cr_sortTD (hc : X.calm = true) (hu : X.A.units + 64 < cLine) : CallR X (.builtin "sorted") (fun vs H Q => ∃ (a : Addr) (es : List EntN) (bs : List (Addr × List Str)), vs = [.ref a] ∧ H a = some (TN X.prog X.w a es) ∧ es.map (fun x => (x.1, x.2.1)) = bs.map (fun p => (dS p.2, p.1)) ∧ (∀ p ∈ bs, Dp X.K H (.ref p.1) (dS p.2)) ∧
    ∀ p, H p = none → Q (.ref p) (upd H p (.lst ((srtS bs).map fun p => V.ref p.1)))) := by
  intro pins s σ H vs us Q I r h
  obtain ⟨a, es, bs, rfl, ha, he, hd, q⟩ := h
  rw [Vals.ref1 r]
  obtain ⟨h1, h2, xs, rq, nd, o, ens, ep, ho, hex, hdt, hens⟩ := (show ObjOk X.prog X.w H s.heap a (TN X.prog X.w a es) from I.hok a _ ha).1
  have hbl : bs.length = es.length := by have := congrArg List.length he; simpa using this.symm
  have hxl : xs.length = es.length := (show Paired _ _ _ from rq).length.symm
  have hel : ens.size = xs.length := by rw [← Array.length_toList, hens, List.length_map]
  have keyat : ∀ i (hi : i < ens.size) p, bs[i]? = some p → ens[i].key = Value.ref p.1 := fun i hi p hp => by
    have g1 : (es.map (fun x => (x.1, x.2.1)))[i]? = some (dS p.2, p.1) := by rw [he, List.getElem?_map, hp]; rfl
    rw [List.getElem?_map] at g1
    obtain ⟨x, hx, ex⟩ := Option.map_eq_some_iff.mp g1
    have go : ∀ {l : List EntN} {m : List (NestedKey × Addr × Value)} (r : KN l m) (i : Nat) x, l[i]? = some x → ∃ y, m[i]? = some y ∧ y.2.1 = x.2.1 := by
      intro l m r
      unfold KN at r
      induction r with
      | nil => intro i x e; simp at e
      | @cons u v us vs hh t ih =>
        intro i x e
        cases i with
        | zero => cases e; exact ⟨v, rfl, hh.2.1⟩
        | succ i => exact ih i x e
    obtain ⟨y, hy, ey⟩ := go rq i x hx
    have g2 : ens.toList[i]? = some (entryOfKey (nestedKind X.prog X.w) y) := by rw [hens, List.getElem?_map, hy]; rfl
    rw [Array.getElem?_toList, Array.getElem?_eq_getElem hi] at g2
    rw [Option.some.inj g2]
    show Value.ref y.2.1 = _
    rw [ey]
    have := congrArg Prod.snd ex
    exact congrArg Value.ref this
  refine sorted_srt hc hu I (Pb := fun b => b = bs) (fun E' Q' k => ?_) (fun b e => by subst e; exact ⟨hd, by omega⟩) (fun b p e hp => by subst e; exact q p hp)
  refine coll_src (A := X.A.in1) (PySem.KdlSrc.rawDict h1) (I.ok.hd hc) (⟨o, ho, hex, hdt⟩ : s.heap.DictRaw a ens ep) (by omega) fun h' tk acc hk hz hacc => ?_
  have e : acc.toList = bs.map fun p => Value.ref p.1 := by
    refine List.ext_getElem? fun i => ?_
    rw [List.getElem?_map]
    by_cases hi : i < bs.length
    · have hia : i < acc.size := by rw [hacc.1]; omega
      have g := Array.getElem?_eq_getElem hia
      obtain ⟨hj, ev⟩ := hacc.2 i _ g
      rw [Array.getElem?_toList, g, ev, List.getElem?_eq_getElem hi, keyat i hj _ (List.getElem?_eq_getElem hi)]
      rfl
    · rw [List.getElem?_eq_none (show bs.length ≤ i by omega), List.getElem?_eq_none (show acc.toList.length ≤ i by rw [Array.length_toList, hacc.1]; omega)]
      rfl
  rw [e]
  exact k _ bs hk rfl rfl hz rfl
end
end L3
namespace PySem.SeqAt
open AutoSeq1 (wpAny_loadPart')
open MeetsSeq
end PySem.SeqAt
namespace L3
open PySem PySem.Spec PyProof.Rows L2
end L3
namespace L3
open PySem PySem.Spec PyProof.Rows L2
end L3
namespace L3
open PySem PySem.Spec PyProof.Rows L2
end L3
namespace M23
/-- a piece is its text; 42 is the star's sign -/
abbrev Pc := List Nat
abbrev Pd := List Pc
def isS (x : Pc) : Bool := x.getLast? == some 42
def lt (x : Pc) : List Nat := if isS x then x.dropLast else x
def holds (y x : Pc) : Bool := if isS y then (lt x).all fun c => decide (c ∈ lt y) else decide (y = x)
def step : Pd → Pc → Option Pd
  | [], _ => none
  | y :: r, x => if holds y x then some (if isS y then y :: r else r) else step r x
def run : Pd → Pd → Option Pd
  | q, [] => some q
  | q, x :: p => (step q x).bind fun q' => run q' p
inductive Emb : Pd → Pd → Prop
  | nil (q : Pd) : Emb [] q
  | skip {p q : Pd} (y : Pc) : Emb p q → Emb p (y :: q)
  | star {x y : Pc} {p q : Pd} : isS y = true → holds y x = true → Emb p (y :: q) → Emb (x :: p) (y :: q)
  | one {x : Pc} {p q : Pd} : isS x = false → Emb p q → Emb (x :: p) (x :: q)
theorem holds_self (x : Pc) : holds x x = true := by
  unfold holds
  split
  · exact List.all_eq_true.mpr fun c hc => decide_eq_true hc
  · exact decide_eq_true rfl
theorem holds_one {x y : Pc} (h : isS y = false) : holds y x = true ↔ y = x := by
  unfold holds
  rw [h, if_neg (by decide), decide_eq_true_iff]
theorem holds_star {x y : Pc} (h : isS y = true) : holds y x = true ↔ ∀ c ∈ lt x, c ∈ lt y := by
  unfold holds
  rw [if_pos h, List.all_eq_true]
  exact ⟨fun z c hc => of_decide_eq_true (z c hc), fun z c hc => decide_eq_true (z c hc)⟩
theorem holds_trans {x y z : Pc} (hy : isS y = true) (h1 : holds y x = true) (h2 : holds x z = true) : holds y z = true := by
  rw [holds_star hy] at h1 ⊢
  cases hx : isS x with
  | true => exact fun c hc => h1 c ((holds_star hx).mp h2 c hc)
  | false => rw [(holds_one hx).mp h2] at h1; exact h1
theorem Emb.refl : ∀ p : Pd, Emb p p
  | [] => .nil _
  | x :: p => by
    cases h : isS x with
    | true => exact .star h (holds_self x) (.skip x (Emb.refl p))
    | false => exact .one h (Emb.refl p)
theorem Emb.tail {x : Pc} {p q : Pd} (h : Emb (x :: p) q) : Emb p q := by
  generalize e : x :: p = y at h
  induction h generalizing x p with
  | nil => cases e
  | skip y _ ih => exact .skip y (ih e)
  | star _ _ h _ => cases e; exact h
  | @one x' p' q' _ h _ => cases e; exact .skip x' h
theorem emb_nil {p : Pd} (h : Emb p []) : p = [] := by cases h; rfl
theorem Emb.trans {p q r : Pd} (h1 : Emb p q) (h2 : Emb q r) : Emb p r := by
  induction h2 generalizing p with
  | nil r => rw [emb_nil h1]; exact .nil _
  | skip y _ ih => exact .skip y (ih h1)
  | @star x y q' r' hy hyx h ih =>
    have key : ∀ p : Pd, Emb p (x :: q') → Emb p (y :: r') := by
      intro p
      induction p with
      | nil => intro _; exact .nil _
      | cons z p ihp =>
        intro h1
        cases h1 with
        | skip _ h1 => exact ih h1
        | star hx hxz h1 => exact .star hy (holds_trans hy hyx hxz) (ihp h1)
        | one hx h1 => exact .star hy hyx (ih h1)
    exact key p h1
  | @one x q' r' hx h ih =>
    cases h1 with
    | nil => exact .nil _
    | skip _ h1 => exact .skip _ (ih h1)
    | star hx' _ _ => rw [hx] at hx'; cases hx'
    | one _ h1 => exact .one hx (ih h1)
theorem step_suffix : ∀ {q : Pd} {x : Pc} {r : Pd}, step q x = some r → ∃ a, q = a ++ r
  | [], _, _, h => by cases h
  | y :: q, x, r, h => by
    unfold step at h
    split at h
    · cases h
      split
      · exact ⟨[], rfl⟩
      · exact ⟨[y], rfl⟩
    · obtain ⟨a, e⟩ := step_suffix h
      exact ⟨y :: a, by rw [e]; rfl⟩
theorem Emb.app {p q : Pd} (a : Pd) (h : Emb p q) : Emb p (a ++ q) := by
  induction a with
  | nil => exact h
  | cons y a ih => exact .skip y ih
theorem step_emb : ∀ {q : Pd} {x : Pc} {r p : Pd}, step q x = some r → Emb p r → Emb (x :: p) q
  | [], _, _, _, h, _ => by cases h
  | y :: q, x, r, p, h, e => by
    unfold step at h
    split at h
    · rename_i hh
      cases h
      cases hy : isS y with
      | true => rw [hy, if_pos rfl] at e; exact .star hy hh e
      | false =>
        rw [hy, if_neg (by decide)] at e
        have g := (holds_one hy).mp hh
        subst g
        exact .one hy e
    · exact .skip y (step_emb h e)
theorem emb_step {x : Pc} {p q : Pd} (h : Emb (x :: p) q) : ∃ r, step q x = some r ∧ Emb p r := by
  generalize e : x :: p = z at h
  induction h generalizing x p with
  | nil => cases e
  | @skip p' q' y h' ih =>
    obtain ⟨r, h1, h2⟩ := ih e
    by_cases hh : holds y x = true
    · refine ⟨_, by unfold step; rw [if_pos hh], ?_⟩
      obtain ⟨a, ea⟩ := step_suffix h1
      have h3 : Emb p q' := by rw [ea]; exact h2.app a
      split
      · exact .skip y h3
      · exact h3
    · exact ⟨r, by unfold step; rw [if_neg hh]; exact h1, h2⟩
  | @star x' y p' q' hy hh h' ih =>
    cases e
    exact ⟨y :: q', by unfold step; rw [if_pos hh, if_pos hy], h'⟩
  | @one x' p' q' hx h' ih =>
    cases e
    exact ⟨q', by unfold step; rw [if_pos (holds_self _), if_neg (by rw [hx]; decide)], h'⟩
theorem run_emb : ∀ {p q : Pd}, (run q p).isSome = true ↔ Emb p q
  | [], q => ⟨fun _ => .nil q, fun _ => rfl⟩
  | x :: p, q => by
    constructor
    · intro h
      unfold run at h
      cases hs : step q x with
      | none => rw [hs] at h; cases h
      | some r =>
        rw [hs] at h
        exact step_emb hs (run_emb.mp h)
    · intro h
      obtain ⟨r, h1, h2⟩ := emb_step h
      unfold run
      rw [h1]
      exact run_emb.mpr h2
theorem run_append : ∀ (a b q : Pd), run q (a ++ b) = (run q a).bind fun r => run r b
  | [], b, q => rfl
  | x :: a, b, q => by
    show (step q x).bind _ = ((step q x).bind _).bind _
    cases step q x with
    | none => rfl
    | some r => exact run_append a b r
theorem run_suffix : ∀ {p q r : Pd}, run q p = some r → ∃ a, q = a ++ r
  | [], q, r, h => ⟨[], by cases h; rfl⟩
  | x :: p, q, r, h => by
    unfold run at h
    cases hs : step q x with
    | none => rw [hs] at h; cases h
    | some r' =>
      rw [hs] at h
      obtain ⟨a, ea⟩ := step_suffix hs
      obtain ⟨b, eb⟩ := run_suffix (show run r' p = some r from h)
      exact ⟨a ++ b, by rw [ea, eb, List.append_assoc]⟩
def tP (t : List Nat) : Pd := t.map fun c => [c]
/-- t is one of the texts of q -/
def In (q : Pd) (t : List Nat) : Prop := Emb (tP t) q
theorem In.up {p q : Pd} {t : List Nat} (h : In p t) (e : Emb p q) : In q t := Emb.trans h e
theorem tP_append (s t : List Nat) : tP (s ++ t) = tP s ++ tP t := List.map_append
/-- a right piece: a letter, or a star of letters -/
def Ok (x : Pc) : Prop := (∃ c, c ≠ 42 ∧ x = [c]) ∨ ∃ l : List Nat, l ≠ [] ∧ l.Pairwise (· < ·) ∧ 42 ∉ l ∧ x = l ++ [42]
theorem isS_star (l : List Nat) : isS (l ++ [42]) = true := by unfold isS; simp
theorem isS_one {c : Nat} (h : c ≠ 42) : isS [c] = false := by unfold isS; simpa using h
theorem lt_star (l : List Nat) : lt (l ++ [42]) = l := by unfold lt; rw [isS_star, if_pos rfl]; simp
theorem lt_one {c : Nat} (h : c ≠ 42) : lt [c] = [c] := by unfold lt; rw [isS_one h, if_neg (by decide)]
theorem Ok.ne {x : Pc} (h : Ok x) : lt x ≠ [] := by
  rcases h with ⟨c, hc, rfl⟩ | ⟨l, h1, _, _, rfl⟩
  · rw [lt_one hc]; simp
  · rw [lt_star]; exact h1
theorem Ok.no {x : Pc} (h : Ok x) : ∀ c ∈ lt x, c ≠ 42 := by
  rcases h with ⟨c, hc, rfl⟩ | ⟨l, _, _, h2, rfl⟩
  · rw [lt_one hc]; intro d hd; rw [List.mem_singleton.mp hd]; exact hc
  · rw [lt_star]; intro d hd e; exact h2 (e ▸ hd)
theorem Ok.one {x : Pc} (h : Ok x) (hs : isS x = false) : ∃ c, c ≠ 42 ∧ x = [c] := by
  rcases h with h | ⟨l, _, _, _, rfl⟩
  · exact h
  · rw [isS_star] at hs; cases hs
/-- the letters of a piece, a star's so often -/
def blk (N : Nat) (x : Pc) : List Nat := if isS x then (List.replicate N (lt x)).flatten else x
def unr (N : Nat) (p : Pd) : List Nat := (p.map (blk N)).flatten
theorem run_stay {y : Pc} {r : Pd} (hy : isS y = true) : ∀ {l : List Nat}, (∀ c ∈ l, c ∈ lt y ∧ c ≠ 42) → run (y :: r) (tP l) = some (y :: r)
  | [], _ => rfl
  | c :: l, h => by
    have hc := h c List.mem_cons_self
    have hh : holds y [c] = true := (holds_star hy).mpr fun d hd => by
      rw [lt_one hc.2] at hd
      rw [List.mem_singleton.mp hd]
      exact hc.1
    show (step (y :: r) [c]).bind _ = _
    have e : step (y :: r) [c] = some (y :: r) := by unfold step; rw [if_pos hh, if_pos hy]
    rw [e]
    exact run_stay hy fun d hd => h d (List.mem_cons_of_mem _ hd)
theorem run_blk {N : Nat} {y : Pc} {r : Pd} (ok : Ok y) (hy : isS y = true) : run (y :: r) (tP (blk N y)) = some (y :: r) := by
  refine run_stay hy fun c hc => ?_
  unfold blk at hc
  rw [if_pos hy] at hc
  obtain ⟨l, hl, hcl⟩ := List.mem_flatten.mp hc
  rw [(List.mem_replicate.mp hl).2] at hcl
  exact ⟨hcl, ok.no c hcl⟩
/-- the text unrolled is one of the product -/
theorem unr_in (N : Nat) : ∀ {p : Pd}, (∀ x ∈ p, Ok x) → In p (unr N p)
  | [], _ => .nil _
  | x :: p, h => by
    have ih := unr_in N (p := p) fun y hy => h y (List.mem_cons_of_mem _ hy)
    have ok := h x List.mem_cons_self
    unfold In unr
    rw [List.map_cons, List.flatten_cons, tP_append, ← run_emb, run_append]
    cases hx : isS x with
    | true =>
      rw [run_blk ok hx]
      exact run_emb.mpr (.skip x ih)
    | false =>
      obtain ⟨c, hc, rfl⟩ := ok.one hx
      have e : blk N [c] = [c] := by unfold blk; rw [hx, if_neg (by decide)]
      rw [e]
      have e2 : run ([c] :: p) (tP [c]) = some p := by
        show (step ([c] :: p) [c]).bind _ = _
        have : step ([c] :: p) [c] = some p := by unfold step; rw [if_pos (holds_self _), hx, if_neg (by decide)]
        rw [this]
        rfl
      rw [e2]
      exact run_emb.mpr ih
/-- a letter that the first piece does not hold, or that is that piece itself: one goes on -/
theorem run_leave {y : Pc} {r q : Pd} : ∀ {l : List Nat}, (isS y = false ∧ l ≠ [] ∨ ∃ c ∈ l, holds y [c] = false) → run (y :: r) (tP l) = some q → ∃ a, r = a ++ q
  | [], h, _ => by
    rcases h with h | ⟨c, hc, _⟩
    · exact absurd rfl h.2
    · cases hc
  | c :: l, h, e => by
    have e' : (step (y :: r) [c]).bind (fun q' => run q' (tP l)) = some q := e
    by_cases hh : holds y [c] = true
    · have s : step (y :: r) [c] = some (if isS y then y :: r else r) := by unfold step; rw [if_pos hh]
      rw [s] at e'
      cases hy : isS y with
      | false =>
        rw [hy, if_neg (by decide)] at e'
        exact run_suffix e'
      | true =>
        rw [hy, if_pos rfl] at e'
        refine run_leave (l := l) (.inr ?_) e'
        rcases h with h | ⟨d, hd, hn⟩
        · rw [hy] at h; exact absurd h.1 (by decide)
        · rcases List.mem_cons.mp hd with rfl | hd
          · rw [hh] at hn; cases hn
          · exact ⟨d, hd, hn⟩
    · have s : step (y :: r) [c] = step r [c] := by
        conv => lhs; unfold step
        rw [if_neg hh]
      rw [s] at e'
      exact run_suffix (p := tP (c :: l)) e'
theorem rep_stay {x : Pc} (ok : Ok x) (hx : isS x = true) : ∀ (n : Nat) (q q' : Pd) (N : Nat), q.length ≤ n → n < N → run q (tP ((List.replicate N (lt x)).flatten)) = some q' →
    ∃ (a : Pd) (y : Pc) (b : Pd), q = a ++ y :: b ∧ isS y = true ∧ holds y x = true ∧ ∃ d, y :: b = d ++ q'
  | n, [], q', N, hq, hN, e => by
    obtain ⟨M, rfl⟩ : ∃ M, N = M + 1 := ⟨N - 1, by omega⟩
    rw [List.replicate_succ, List.flatten_cons, tP_append, run_append] at e
    cases h : lt x with
    | nil => exact absurd h ok.ne
    | cons c l =>
      rw [h] at e
      exact absurd e (by simp [tP, run, step])
  | 0, y :: r, q', N, hq, _, _ => absurd hq (by simp)
  | n + 1, y :: r, q', N, hq, hN, e => by
    by_cases good : isS y = true ∧ holds y x = true
    · obtain ⟨d, hd⟩ := run_suffix e
      exact ⟨[], y, r, rfl, good.1, good.2, d, hd⟩
    · obtain ⟨M, rfl⟩ : ∃ M, N = M + 1 := ⟨N - 1, by omega⟩
      rw [List.replicate_succ, List.flatten_cons, tP_append, run_append] at e
      cases h1 : run (y :: r) (tP (lt x)) with
      | none => rw [h1] at e; cases e
      | some q1 =>
        rw [h1] at e
        obtain ⟨a, ha⟩ := run_leave (y := y) (r := r) (q := q1) (l := lt x) (by
          cases hy : isS y with
          | false => exact .inl ⟨rfl, ok.ne⟩
          | true =>
            refine .inr (Classical.byContradiction fun z => good ⟨hy, (holds_star hy).mpr fun c hc => ?_⟩)
            have := Classical.not_not.mp fun w => z ⟨c, hc, by cases g : holds y [c] with | true => exact absurd g w | false => rfl⟩
            exact (holds_star hy).mp this c (by rw [lt_one (ok.no c hc)]; exact List.mem_singleton.mpr rfl)) h1
        have hl : q1.length ≤ n := by
          have := congrArg List.length ha
          rw [List.length_append] at this
          simp at hq
          omega
        obtain ⟨a2, y2, b2, e2, s2, g2, d2, f2⟩ := rep_stay ok hx n q1 q' M hl (by omega) e
        exact ⟨y :: a ++ a2, y2, b2, by rw [ha, e2]; simp, s2, g2, d2, f2⟩
/-- what the unrolled text is in, the product lies within -/
theorem emb_of_unr {N : Nat} : ∀ {p q : Pd}, (∀ x ∈ p, Ok x) → q.length < N → In q (unr N p) → Emb p q
  | [], q, _, _, _ => .nil q
  | x :: p, q, h, hN, hin => by
    have ok := h x List.mem_cons_self
    unfold In unr at hin
    rw [List.map_cons, List.flatten_cons, tP_append, ← run_emb, run_append] at hin
    cases h1 : run q (tP (blk N x)) with
    | none => rw [h1] at hin; cases hin
    | some q1 =>
      rw [h1] at hin
      obtain ⟨a, ha⟩ := run_suffix h1
      have hl : q1.length < N := by
        have := congrArg List.length ha
        rw [List.length_append] at this
        omega
      have ih : Emb p q1 := emb_of_unr (N := N) (fun y hy => h y (List.mem_cons_of_mem _ hy)) hl (run_emb.mp hin)
      cases hx : isS x with
      | true =>
        have e : blk N x = (List.replicate N (lt x)).flatten := by unfold blk; rw [if_pos hx]
        rw [e] at h1
        obtain ⟨b, y, d, e1, s1, g1, f, e2⟩ := rep_stay ok hx q.length q q1 N (Nat.le_refl _) hN h1
        rw [e1]
        exact Emb.app b (.star s1 g1 (by rw [e2]; exact ih.app f))
      | false =>
        obtain ⟨c, hc, rfl⟩ := ok.one hx
        have e : blk N [c] = [c] := by unfold blk; rw [hx, if_neg (by decide)]
        rw [e] at h1
        have s : step q [c] = some q1 := by
          have : (step q [c]).bind (fun q' => some q') = some q1 := h1
          cases hs : step q [c] with
          | none => rw [hs] at this; cases this
          | some r => rw [hs] at this; exact this
        exact step_emb s ih
/-- a product within some products lies within one -/
theorem emb_some {p : Pd} {qs : List Pd} (h : ∀ x ∈ p, Ok x) (z : ∀ t, In p t → ∃ q ∈ qs, In q t) : ∃ q ∈ qs, Emb p q := by
  obtain ⟨N, hN⟩ : ∃ N, ∀ q ∈ qs, q.length < N := by
    clear z
    induction qs with
    | nil => exact ⟨0, fun q hq => by cases hq⟩
    | cons q qs ih =>
      obtain ⟨N, hN⟩ := ih
      refine ⟨N + q.length + 1, fun r hr => ?_⟩
      rcases List.mem_cons.mp hr with rfl | hr
      · omega
      · have := hN r hr; omega
  obtain ⟨q, hq, hi⟩ := z _ (unr_in N h)
  exact ⟨q, hq, emb_of_unr h (hN q hq) hi⟩
/-- a piece beside a star that has all its letters -/
def idle (a b : Pc) : Prop := (isS a = true ∧ holds a b = true) ∨ (isS b = true ∧ holds b a = true)
def Red : Pd → Prop
  | [] => True
  | [_] => True
  | a :: b :: r => ¬ idle a b ∧ Red (b :: r)
theorem Red.tail {a : Pc} {r : Pd} (h : Red (a :: r)) : Red r := by
  cases r with
  | nil => trivial
  | cons b r => exact h.2
theorem red_no : ∀ {q : Pd} {y : Pc}, Red (y :: q) → ¬ Emb (y :: q) q
  | [], y, _, h => by cases h
  | z :: r, y, h, e => by
    cases e with
    | skip _ e => exact red_no h.2 e.tail
    | star hz hy _ => exact h.1 (.inr ⟨hz, hy⟩)
    | one _ e => exact red_no h.2 e
theorem star_eq {x y : Pc} (ox : Ok x) (oy : Ok y) (hx : isS x = true) (hy : isS y = true) (h1 : holds x y = true) (h2 : holds y x = true) : x = y := by
  rcases ox with ⟨c, hc, rfl⟩ | ⟨l, a1, a2, a3, rfl⟩
  · rw [isS_one hc] at hx; cases hx
  · rcases oy with ⟨c, hc, rfl⟩ | ⟨m, b1, b2, b3, rfl⟩
    · rw [isS_one hc] at hy; cases hy
    · rw [holds_star hx, lt_star, lt_star] at h1
      rw [holds_star hy, lt_star, lt_star] at h2
      have p : l.Perm m := (List.perm_ext_iff_of_nodup (a2.imp fun h => Nat.ne_of_lt h) (b2.imp fun h => Nat.ne_of_lt h)).mpr fun x => ⟨h2 x, h1 x⟩
      rw [p.eq_of_pairwise (fun a b _ _ h3 h4 => absurd (Nat.lt_trans h3 h4) (Nat.lt_irrefl _)) a2 b2]
/-- reduced products with the same texts are one -/
theorem red_uniq : ∀ {p q : Pd}, (∀ x ∈ p, Ok x) → (∀ x ∈ q, Ok x) → Red p → Red q → Emb p q → Emb q p → p = q
  | [], q, _, _, _, _, _, h => (emb_nil h).symm
  | x :: p, [], _, _, _, _, h, _ => by cases h
  | x :: p, y :: q, op, oq, rp, rq, h1, h2 => by
    have heads : (isS x = false ∧ x = y ∧ Emb p q) ∨ (isS y = true ∧ holds y x = true ∧ Emb p (y :: q)) := by
      cases h1 with
      | skip _ h1 => exact absurd (h2.trans h1) (red_no rq)
      | star a b c => exact .inr ⟨a, b, c⟩
      | one a b => exact .inl ⟨a, rfl, b⟩
    have heads2 : (isS y = false ∧ y = x ∧ Emb q p) ∨ (isS x = true ∧ holds x y = true ∧ Emb q (x :: p)) := by
      cases h2 with
      | skip _ h2 => exact absurd (h1.trans h2) (red_no rp)
      | star a b c => exact .inr ⟨a, b, c⟩
      | one a b => exact .inl ⟨a, rfl, b⟩
    have op' := fun z hz => op z (List.mem_cons_of_mem _ hz)
    have oq' := fun z hz => oq z (List.mem_cons_of_mem _ hz)
    rcases heads with ⟨a1, e, a2⟩ | ⟨a1, a2, a3⟩
    · subst e
      rcases heads2 with ⟨_, _, b2⟩ | ⟨b1, _, _⟩
      · rw [red_uniq op' oq' rp.tail rq.tail a2 b2]
      · rw [a1] at b1; cases b1
    · rcases heads2 with ⟨b1, e, _⟩ | ⟨b1, b2, b3⟩
      · rw [a1] at b1; cases b1
      · have e := star_eq (op x List.mem_cons_self) (oq y List.mem_cons_self) b1 a1 b2 a2
        subst e
        have low : ∀ {u v : Pd}, Red (x :: u) → Emb u (x :: v) → Emb u v := fun {u v} r e => by
          cases e with
          | nil => exact .nil _
          | skip _ e => exact e
          | star hs hh _ => exact absurd (.inl ⟨hs, hh⟩) r.1
          | one hx _ => rw [a1] at hx; cases hx
        rw [red_uniq op' oq' rp.tail rq.tail (low rp a3) (low rq b3)]
theorem Emb.cons {p q : Pd} (x : Pc) (h : Emb p q) : Emb (x :: p) (x :: q) := by
  cases hx : isS x with
  | true => exact .star hx (holds_self x) (.skip x h)
  | false => exact .one hx h
theorem Emb.pre {p q : Pd} (a : Pd) (h : Emb p q) : Emb (a ++ p) (a ++ q) := by
  induction a with
  | nil => exact h
  | cons x a ih => exact ih.cons x
theorem Emb.post {p q : Pd} (h : Emb p q) (b : Pd) : Emb (p ++ b) (q ++ b) := by
  induction h with
  | nil q => exact (Emb.refl b).app q
  | skip y _ ih => exact .skip y ih
  | star h1 h2 _ ih => exact .star h1 h2 ih
  | one h1 _ ih => exact .one h1 ih
/-- the same texts -/
def Eqv (p q : Pd) : Prop := Emb p q ∧ Emb q p
theorem Eqv.refl (p : Pd) : Eqv p p := ⟨.refl p, .refl p⟩
theorem Eqv.symm {p q : Pd} (h : Eqv p q) : Eqv q p := ⟨h.2, h.1⟩
theorem Eqv.trans {p q r : Pd} (h : Eqv p q) (g : Eqv q r) : Eqv p r := ⟨h.1.trans g.1, g.2.trans h.2⟩
theorem Eqv.ctx {p q : Pd} (a b : Pd) (h : Eqv p q) : Eqv (a ++ p ++ b) (a ++ q ++ b) := ⟨(h.1.pre a).post b, (h.2.pre a).post b⟩
/-- a piece ahead of a star that holds it -/
theorem eqv_l {x y : Pc} (hy : isS y = true) (h : holds y x = true) : Eqv [x, y] [y] := ⟨.star hy h (.refl _), .skip x (.refl _)⟩
/-- a piece behind a star that holds it -/
theorem eqv_r {x y : Pc} (hx : isS x = true) (h : holds x y = true) : Eqv [x, y] [x] := ⟨.star hx (holds_self x) (.star hx h (.nil _)), .star hx (holds_self x) (.nil _)⟩
theorem eqv_in {p q : Pd} (h : Eqv p q) (t : List Nat) : In p t ↔ In q t := ⟨fun z => z.up h.1, fun z => z.up h.2⟩
def pops (x : Pc) : Pd → Pd
  | [] => []
  | y :: f => if isS x && holds x y then pops x f else y :: f
def push (f : Pd) (x : Pc) : Pd := match pops x f with
  | [] => [x]
  | y :: g => if isS y && holds y x then y :: g else x :: y :: g
def redOf (p : Pd) : Pd := (p.foldl push []).reverse
theorem pops_suffix (x : Pc) : ∀ f : Pd, ∃ a, f = a ++ pops x f ∧ (a ≠ [] → isS x = true) ∧ ∀ y ∈ a, holds x y = true
  | [] => ⟨[], rfl, fun h => absurd rfl h, fun y h => by cases h⟩
  | y :: f => by
    unfold pops
    split
    · rename_i h
      obtain ⟨a, e, h1, h2⟩ := pops_suffix x f
      rw [Bool.and_eq_true] at h
      exact ⟨y :: a, by rw [List.cons_append, ← e], fun _ => h.1, fun z hz => (List.mem_cons.mp hz).elim (fun w => w ▸ h.2) (h2 z)⟩
    · exact ⟨[], rfl, fun h => absurd rfl h, fun y h => by cases h⟩
theorem pops_head {x : Pc} : ∀ {f : Pd} {y : Pc} {g : Pd}, pops x f = y :: g → ¬ (isS x = true ∧ holds x y = true)
  | [], _, _, h => by cases h
  | z :: f, y, g, h => by
    unfold pops at h
    split at h
    · exact pops_head h
    · rename_i hn
      cases h
      rwa [Bool.and_eq_true] at hn
theorem idle_symm {a b : Pc} (h : idle a b) : idle b a := h.elim .inr .inl
theorem red_iff : ∀ {l : Pd}, Red l ↔ ∀ u a b v, l = u ++ a :: b :: v → ¬ idle a b
  | [] => ⟨fun _ u a b v e => by simp at e, fun _ => trivial⟩
  | [x] => ⟨fun _ u a b v e => by
      have := congrArg List.length e
      simp at this
      omega, fun _ => trivial⟩
  | x :: y :: r => by
    constructor
    · intro h u a b v e
      cases u with
      | nil => cases e; exact h.1
      | cons z u =>
        rw [List.cons_append] at e
        injection e with _ e
        exact red_iff.mp h.2 u a b v e
    · intro h
      exact ⟨h [] x y r rfl, red_iff.mpr fun u a b v e => h (x :: u) a b v (by rw [e]; rfl)⟩
theorem red_rev {l : Pd} (h : Red l) : Red l.reverse := red_iff.mpr fun u a b v e => fun z => by
  have e2 : l = v.reverse ++ b :: a :: u.reverse := by
    have := congrArg List.reverse e
    rw [List.reverse_reverse] at this
    rw [this]
    simp
  exact red_iff.mp h _ b a _ e2 (idle_symm z)
theorem red_suffix {a b : Pd} (h : Red (a ++ b)) : Red b := red_iff.mpr fun u x y v e => red_iff.mp h (a ++ u) x y v (by rw [e, List.append_assoc])
theorem push_red {f : Pd} {x : Pc} (h : Red f) : Red (push f x) := by
  obtain ⟨a, e, _, _⟩ := pops_suffix x f
  have hs : Red (pops x f) := red_suffix (a := a) (by rw [← e]; exact h)
  unfold push
  split
  · trivial
  · rename_i y g hg
    rw [hg] at hs
    split
    · exact hs
    · rename_i hn
      rw [Bool.and_eq_true] at hn
      exact ⟨fun z => z.elim (pops_head hg) hn, hs⟩
theorem absorb {x : Pc} (hx : isS x = true) : ∀ {a : Pd}, (∀ y ∈ a, holds x y = true) → Eqv (a ++ [x]) [x]
  | [], _ => .refl _
  | y :: a, h => by
    have ih := (absorb hx (a := a) fun z hz => h z (List.mem_cons_of_mem _ hz)).ctx [y] []
    simp only [List.append_nil] at ih
    exact ih.trans (eqv_l hx (h y List.mem_cons_self))
theorem push_eqv (f : Pd) (x : Pc) : Eqv (f.reverse ++ [x]) (push f x).reverse := by
  obtain ⟨a, e, h1, h2⟩ := pops_suffix x f
  have base : Eqv (f.reverse ++ [x]) ((pops x f).reverse ++ [x]) := by
    by_cases ha : a = []
    · subst ha
      rw [List.nil_append] at e
      rw [← e]
      exact .refl _
    · have z := (absorb (h1 ha) (a := a.reverse) fun y hy => h2 y (List.mem_reverse.mp hy)).ctx (pops x f).reverse []
      conv => lhs; rw [e]
      rw [List.reverse_append]
      simpa using z
  refine base.trans ?_
  unfold push
  split
  · rename_i hg; rw [hg]; exact .refl _
  · rename_i y g hg
    rw [hg]
    split
    · rename_i hh
      rw [Bool.and_eq_true] at hh
      have z := (eqv_r hh.1 hh.2).ctx g.reverse []
      simpa using z
    · rw [List.reverse_cons (a := x)]
      exact .refl _
theorem fold_red : ∀ (p f : Pd), Red f → Red (p.foldl push f) ∧ Eqv (f.reverse ++ p) (p.foldl push f).reverse
  | [], f, h => ⟨h, by rw [List.append_nil]; exact .refl _⟩
  | x :: p, f, h => by
    obtain ⟨a, b⟩ := fold_red p (push f x) (push_red h)
    refine ⟨a, Eqv.trans ?_ b⟩
    have z := (push_eqv f x).ctx [] p
    simpa using z
theorem redOf_red (p : Pd) : Red (redOf p) := red_rev (fold_red p [] trivial).1
theorem redOf_eqv (p : Pd) : Eqv p (redOf p) := (fold_red p [] trivial).2
theorem pops_mem {x y : Pc} : ∀ {f : Pd}, y ∈ pops x f → y ∈ f
  | [], h => h
  | z :: f, h => by
    unfold pops at h
    split at h
    · exact List.mem_cons_of_mem _ (pops_mem h)
    · exact h
theorem push_mem {f : Pd} {x y : Pc} (h : y ∈ push f x) : y = x ∨ y ∈ f := by
  unfold push at h
  split at h
  · exact .inl (List.mem_singleton.mp h)
  · rename_i z g hg
    split at h
    · exact .inr (pops_mem (by rw [hg]; exact h))
    · rcases List.mem_cons.mp h with h | h
      · exact .inl h
      · exact .inr (pops_mem (by rw [hg]; exact h))
theorem fold_mem : ∀ {p f : Pd} {y : Pc}, y ∈ p.foldl push f → y ∈ p ∨ y ∈ f
  | [], f, y, h => .inr h
  | x :: p, f, y, h => by
    rcases fold_mem (p := p) (f := push f x) h with h | h
    · exact .inl (List.mem_cons_of_mem _ h)
    · rcases push_mem h with h | h
      · exact .inl (h ▸ List.mem_cons_self)
      · exact .inr h
theorem redOf_mem {p : Pd} {y : Pc} (h : y ∈ redOf p) : y ∈ p := (fold_mem (List.mem_reverse.mp h)).elim id fun z => by cases z
theorem pops_len (x : Pc) : ∀ f : Pd, (pops x f).length ≤ f.length
  | [] => Nat.le_refl _
  | y :: f => by
    unfold pops
    split
    · exact Nat.le_succ_of_le (pops_len x f)
    · exact Nat.le_refl _
theorem push_len (f : Pd) (x : Pc) : (push f x).length ≤ f.length + 1 := by
  have := pops_len x f
  unfold push
  split
  · simp
  · rename_i y g hg
    rw [hg] at this
    split
    · exact Nat.le_succ_of_le this
    · rw [List.length_cons]; omega
theorem fold_len : ∀ (p f : Pd), (p.foldl push f).length ≤ f.length + p.length
  | [], f => Nat.le_refl _
  | x :: p, f => by
    have h1 := fold_len p (push f x)
    have h2 := push_len f x
    rw [List.foldl_cons, List.length_cons]
    omega
theorem redOf_len (p : Pd) : (redOf p).length ≤ p.length := by
  unfold redOf
  rw [List.length_reverse]
  have := fold_len p []
  rw [List.length_nil] at this
  omega
/-- the reduced product is THE reduced one with the same texts -/
theorem redOf_uniq {p q : Pd} (hp : ∀ x ∈ p, Ok x) (hq : ∀ x ∈ q, Ok x) (hr : Red q) (h : Eqv p q) : redOf p = q := by
  have e := (redOf_eqv p).symm.trans h
  exact red_uniq (fun x hx => hp x (redOf_mem hx)) hq (redOf_red p) hr e.1 e.2
def Max (S : List Pd) (p : Pd) : Prop := p ∈ S ∧ ∀ q ∈ S, q ≠ p → ¬ Emb p q
structure Good (p : Pd) : Prop where
  ok : ∀ x ∈ p, Ok x
  red : Red p
theorem redOf_good {p : Pd} (h : ∀ x ∈ p, Ok x) : Good (redOf p) := ⟨fun x hx => h x (redOf_mem hx), redOf_red p⟩
theorem good_uniq {p q : Pd} (hp : Good p) (hq : Good q) (h1 : Emb p q) (h2 : Emb q p) : p = q := red_uniq hp.ok hq.ok hp.red hq.red h1 h2
def Sub (S T : List Pd) : Prop := ∀ t, (∃ p ∈ S, In p t) → ∃ p ∈ T, In p t
theorem max_in {S T : List Pd} (hS : ∀ p ∈ S, Good p) (hT : ∀ p ∈ T, Good p) (h1 : Sub S T) (h2 : Sub T S) {p : Pd} (h : Max S p) : Max T p := by
  have up : ∀ {r : Pd}, r ∈ T → Emb p r → r = p := fun {r} hr e => by
    obtain ⟨p', hp', e'⟩ := emb_some (hT r hr).ok fun t ht => h2 t ⟨r, hr, ht⟩
    have e2 := e.trans e'
    by_cases z : p' = p
    · subst z
      exact good_uniq (hT r hr) (hS _ hp') e' e
    · exact absurd e2 (h.2 p' hp' z)
  obtain ⟨q, hq, e⟩ := emb_some (hS p h.1).ok fun t ht => h1 t ⟨p, h.1, ht⟩
  have := up hq e
  subst this
  exact ⟨hq, fun r hr hne e => hne (up hr e)⟩
theorem max_iff {S T : List Pd} (hS : ∀ p ∈ S, Good p) (hT : ∀ p ∈ T, Good p) (h1 : Sub S T) (h2 : Sub T S) (p : Pd) : Max S p ↔ Max T p := ⟨max_in hS hT h1 h2, max_in hT hS h2 h1⟩
/-- each lies within one that is kept -/
theorem under_max {S : List Pd} (hS : ∀ p ∈ S, Good p) : ∀ (n : Nat) (L : List Pd), L.length ≤ n → ∀ p ∈ S, (∀ q ∈ S, Emb p q → q ≠ p → q ∈ L) → ∃ k, Max S k ∧ Emb p k
  | n, L, hL, p, hp, h => by
    by_cases m : ∀ q ∈ S, q ≠ p → ¬ Emb p q
    · exact ⟨p, ⟨hp, m⟩, .refl p⟩
    · obtain ⟨q, hq⟩ := Classical.not_forall.mp m
      obtain ⟨hqS, hq2⟩ := Classical.not_imp.mp hq
      obtain ⟨hne, hq3⟩ := Classical.not_imp.mp hq2
      have e : Emb p q := Classical.not_not.mp hq3
      have hqL := h q hqS e hne
      clear hq m
      cases n with
      | zero => cases L with
        | nil => cases hqL
        | cons x L => simp at hL
      | succ n =>
        have hl : (L.erase q).length ≤ n := by rw [List.length_erase_of_mem hqL]; omega
        obtain ⟨k, k1, k2⟩ := under_max hS n (L.erase q) hl q hqS fun r hr er hrq => by
          have hrp : r ≠ p := fun z => by
            subst z
            exact hne (good_uniq (hS q hqS) (hS _ hr) er e)
          exact (List.mem_erase_of_ne hrq).mpr (h r hr (e.trans er) hrp)
        exact ⟨k, k1, e.trans k2⟩
theorem max_sub {S : List Pd} (hS : ∀ p ∈ S, Good p) {p : Pd} (hp : p ∈ S) : ∃ k, Max S k ∧ Emb p k := under_max hS S.length S (Nat.le_refl _) p hp fun q hq _ _ => hq
end M23
namespace Lw
open PySem PySem.Spec PyProof.Rows L3
open L2 hiding del del_same del_ne
/-- letters -/
structure Lets (sg : List Nat) : Prop where
  ne : 0 < sg.length
  few : sg.length ≤ 3
  up : sg.Pairwise (· < ·)
  az : ∀ c ∈ sg, 97 ≤ c ∧ c ≤ 122
theorem small_codes : (("abcdefghijklmnopqrstuvwxyz" : Str)).cps.toList = (List.range 26).map (· + 97) := by decide +kernel
theorem small_mem {c : Nat} (h : 97 ≤ c ∧ c ≤ 122) : c ∈ (("abcdefghijklmnopqrstuvwxyz" : Str)).cps.toList := by
  rw [small_codes]
  exact List.mem_map.mpr ⟨c - 97, List.mem_range.mpr (by omega), by omega⟩
theorem sz {n : Nat} (h : n ≤ 100000) : n ≤ sizeLine := by rw [sizeLine_eq]; omega
theorem ite_f {b : Bool} {p q : Prop} (e : b = false) (h : q) : if b = true then p else q := by rw [e]; exact h
theorem ite_t {b : Bool} {p q : Prop} (e : b = true) (h : p) : if b = true then p else q := by rw [e]; exact h
theorem u64 {k : Nat} {A : Around} (hr : Room k A) : A.units + 64 < cLine := by have := hr.units; omega
/-- rows: a list or a tuple of lists or tuples of numbers -/
def Rw (K : PySem.W.Frag) (H : Hp) (v : V) (R : List (List Nat)) : Prop := ∃ xs, Sq K H v xs ∧ xs.length = R.length ∧ ∀ (i : Nat) (x : V) (r : List Nat), xs[i]? = some x → R[i]? = some r → Sq K H x (nV r)
theorem Rw.same {K : PySem.W.Frag} {H H' : Hp} {v : V} {R : List (List Nat)} (h : Rw K H v R) (s : Same H H') : Rw K H' v R := by
  obtain ⟨xs, a, b, c⟩ := h
  exact ⟨xs, a.same s, b, fun i x r h1 h2 => (c i x r h1 h2).same s⟩
theorem ty_list {K : PySem.W.Frag} {H : Hp} {a : Addr} {xs : List V} (h : SqL K H a xs) : TyX K H (.ref a) (.type "list") := by
  rcases h with (h | ⟨o, h⟩) | ⟨o, its, n, hk, hc, _⟩
  · exact .base (.lst h)
  · exact .base (.frz h)
  · exact .kList hk hc
theorem ty_tuple {K : PySem.W.Frag} {H : Hp} {a : Addr} {xs : List V} (h : SqT K H a xs) : TyX K H (.ref a) (.type "tuple") := by
  rcases h with (h | ⟨o, h⟩) | ⟨o, its, n, hk, hc, _⟩
  · exact .base (.tup h)
  · exact .fTuple h
  · exact .kTuple hk hc
section
variable {P : Program} {w : World} {K : PySem.W.Frag} {mg : Str → Option Value} {base : Heap}
def spIsList (K : PySem.W.Frag) : Sp := fun vs H Q _ => ∃ v xs, vs = [v] ∧ Sq K H v xs ∧ ∀ H', Same H H' → Q (.bl true) H'
theorem ok_is_list (T : All K mg) : FnOk P w K mg base CX0 1 T.f_is_list T.d_is_list ["value"] (spIsList K) := by
  refine T.is_list.F.ok sc_is_list (fun vs H Q E h => ?_) (fun cdv A outer s H vs Q E hr h => ?_)
  · obtain ⟨n, xs, rfl, _⟩ := h
    rfl
  · obtain ⟨v, xs, rfl, hs, q⟩ := h
    refine ⟨_, pss_one (ps_ret (pe_callB call_isiT (by rfl) T.b_isinstance boot_isinstance (pa_cons (pv 0) (pa_cons (pe_tup (pa_cons (pe_bltn (v := .ty "list") (by rfl) T.b_list (by decide +kernel) rfl) (pa_cons (pe_bltn (v := .ty "tuple") (by rfl) T.b_tuple (by decide +kernel) rfl) pa_nil))) pa_nil)))), ?_⟩
    refine ⟨_, rfl, by show 2 ≤ sizeLine; decide, fun t nt => ?_⟩
    obtain ⟨a, rfl, hS⟩ := hs.same (same_upd (o := .tup [.ty "list", .ty "tuple"]) nt)
    rcases hS with h | h
    · exact ⟨_, t, [.ty "list", .ty "tuple"], .type "list", [.type "list", .type "tuple"], true, rfl, upd_same, .cons (.ty _) (.cons (.ty _) .nil), ty_list h, kitAny_cons (b := true) (kit_ty (by decide +kernel)) (fun z => by cases z) (fun _ => rfl), q _ (same_upd nt)⟩
    · exact ⟨_, t, [.ty "list", .ty "tuple"], .type "tuple", [.type "list", .type "tuple"], true, rfl, upd_same, .cons (.ty _) (.cons (.ty _) .nil), ty_tuple h, kitAny_cons (b := false) (kit_ty (by decide +kernel)) (fun _ => kitAny_cons (b := true) (kit_ty (by decide +kernel)) (fun z => by cases z) (fun _ => rfl)) (fun z => by cases z), q _ (same_upd nt)⟩
def spIsText : Sp := fun vs H Q _ => ∃ l, vs = [tx l] ∧ (∀ c ∈ l, 97 ≤ c ∧ c ≤ 122) ∧ l.length ≤ 1000 ∧ ∀ H', Same H H' → Q (.bl true) H'
theorem ok_is_text (T : All K mg) : FnOk P w K mg base CX0 1 T.f_is_text T.d_is_text ["value"] spIsText := by
  refine T.is_text.F.ok sc_is_text (fun vs H Q E h => ?_) (fun cdv A outer s H vs Q E hr h => ?_)
  · obtain ⟨l, rfl, _⟩ := h
    rfl
  · obtain ⟨l, rfl, hl, hz, q⟩ := h
    obtain ⟨ts, hSMALL_basics⟩ := T.c_SMALL_basics
    refine ⟨_, pss_one (ps_ret (pe_and (pe_callB call_isi (by rfl) T.b_isinstance boot_isinstance (pa_cons (pv 0) (pa_cons (pe_bltn (v := .ty "str") (by rfl) T.b_str (by decide +kernel) rfl) pa_nil)))
        (pe_one (pe_callB (cr_all rfl) (by rfl) T.b_all PyProof.Rows.boot_all (pa_cons (pe_lc (own := [("sign", 1)]) (g := gName 1) (tt := tYes) rfl sc_is_text.nd (pi_str (pv 0))
          (blkOk_by (own := [("sign", 1)]) (N := ["value", "sign"]) (sc := defScope s_is_text) (by decide +kernel))
          (fun _ _ _ _ _ => pg_name (i := 1) sc_is_text.nd rfl (by first | exact Or.inl rfl | exact Or.inr rfl)) (fun _ _ _ _ _ => pts_nil)
          (fun _ _ _ _ _ => (pe_cmpR op_in_sign (pv 1) (pe_glob (v := .str "abcdefghijklmnopqrstuvwxyz") rfl hSMALL_basics ⟨_, rfl⟩) (by rfl)))) pa_nil))))), ?_⟩
    refine ⟨tx l, rfl, tx l, .ty "str", .type "str", .type "str", true, rfl, .ty _, .base (.str _), kit_ty (by decide +kernel), true, rfl, iteT ?_⟩
    refine ⟨tx l, rfl, tS l, rfl, fun D nD => ?_⟩
    refine lc_gen walk_tx (Same H) (fun i acc => acc = List.replicate i (.bl true)) (sz (by omega)) (fun i acc e => by rw [e]; simp) rfl (same_upd nD) (fun _ _ h => same_up h nD) (fun _ _ => trivial) (fun i x H2 H3 acc C N hi r hD ha y c n => ?_) (fun H2 xs r hD ha => ?_)
    · obtain ⟨rfl, ch, hc, rfl⟩ := y
      refine ⟨rfl, yes_te ?_⟩
      refine ⟨_, rfl, ch, _, rfl, rfl, ?_⟩
      rw [decide_eq_true (small_mem (hl ch (List.mem_of_getElem? hc)))]
      exact c _ _ r hD (by rw [ha, List.replicate_succ'])
    · refine ⟨D, List.replicate l.length true, rfl, .inl (.inl ?_), ?_⟩
      · rw [hD, ha]
        simp
      · have e : (List.replicate l.length true).all id = true := by simp
        rw [e]
        exact q _ r
theorem sort_lets {sg : List Nat} (up : sg.Pairwise (· < ·)) {L : List (List Nat)} (hp : L.Perm (lets sg)) (hs : L.Pairwise (· < ·)) : L = sg.map fun c => [c] := by
  have h2 : (sg.map fun c => [c]).Pairwise (· < ·) := by
    rw [List.pairwise_map]
    refine up.imp fun h => ?_
    exact List.cons_lt_cons_iff.mpr (.inl h)
  have hn1 : L.Nodup := hs.imp fun h e => by subst e; exact absurd h (List.lt_irrefl _)
  have hn2 : (sg.map fun c => [c]).Nodup := h2.imp fun h e => by subst e; exact absurd h (List.lt_irrefl _)
  have hp2 : L.Perm (sg.map fun c => [c]) := by
    refine (List.perm_ext_iff_of_nodup hn1 hn2).mpr fun x => ?_
    rw [hp.mem_iff, lets_mem, List.mem_map]
    exact ⟨fun ⟨c, h1, h2⟩ => ⟨c, h1, h2.symm⟩, fun ⟨c, h1, h2⟩ => ⟨c, h1, h2.symm⟩⟩
  exact hp2.eq_of_pairwise (fun a b _ _ h1 h2 => absurd (List.lt_trans h1 h2) (List.lt_irrefl _)) hs h2
def spAreLetters : Sp := fun vs H Q _ => ∃ sg, vs = [tx sg] ∧ Lets sg ∧ ∀ H', Same H H' → Q (.bl true) H'
theorem ok_are_letters (T : All K mg) : FnOk P w K mg base CX0 2 T.f_are_letters T.d_are_letters ["value"] spAreLetters := by
  refine T.are_letters.F.ok sc_are_letters (fun vs H Q E h => ?_) (fun cdv A outer s H vs Q E hr h => ?_)
  · obtain ⟨l, rfl, _⟩ := h
    rfl
  · obtain ⟨sg, rfl, hl, q⟩ := h
    obtain ⟨ts, hMOST_LETTERS⟩ := T.c_MOST_LETTERS
    have hz : sg.length ≤ sizeLine := sz (by have := hl.few; omega)
    refine ⟨_, pss_cons (ps_if (PW.pt (pw_or (pt_not (pt_val (pe_call (ok_is_text T) (hr.mono (by decide)) (by rfl) T.is_text.g T.is_text.F.kp T.is_text.b .nil pass0 (pa_cons (pv 0) pa_nil)))) (pw_or1 (pt_not (pt_chain op_le op_le pe_int (pe_callB call_lenT (by rfl) T.b_len PySem.boot_len (pa_cons (pv 0) pa_nil)) (pe_glob (v := .int 3) rfl hMOST_LETTERS ⟨_, rfl⟩)))))) (pss_one (ps_ret pe_bl)) pss_nil)
      (pss_one (ps_ret (pe_cmpR (op_eqD (u64 hr)) (pe_callTy (call_listT rfl) (by rfl) T.b_list PyProof.Rows.boot_list (pa_cons (pv 0) pa_nil)) (pe_callB (cr_sortSetT rfl) (by rfl) T.b_sorted PyProof.Rows.boot_sorted (pa_cons (pe_callTy (cr_setT rfl) (by rfl) T.b_set (show bootBuiltins "set" = some (.type "set") by decide +kernel) (pa_cons (pv 0) pa_nil)) pa_nil)) (by rfl)))), ?_⟩
    refine ⟨_, rfl, sg, rfl, hl.az, by have := hl.few; omega, fun H1 s1 => ?_⟩
    refine ⟨true, rfl, iteF ?_⟩
    have e1 : decide ((1 : Int) ≤ (sg.length : Int)) = true := decide_eq_true (by have := hl.ne; omega)
    have e2 : decide ((sg.length : Int) ≤ 3) = true := decide_eq_true (by have := hl.few; omega)
    refine ⟨_, rfl, sg, rfl, hz, _, _, rfl, rfl, _, rfl, ?_⟩
    rw [e1]
    refine iteT ⟨_, _, rfl, rfl, true, congrArg V.bl e2, iteF ?_⟩
    refine ⟨_, rfl, sg, rfl, hz, fun p np => ?_⟩
    refine ⟨_, rfl, sg, rfl, by have := hl.few; omega, fun p2 np2 => ?_⟩
    refine ⟨p2, _, rfl, upd_same, fun L p3 hp hs np3 => ?_⟩
    have eL := sort_lets hl.up hp hs
    subst eL
    have s2 := same_up (o := .lst (sg.map fun c => tx [c])) s1 (s1.free np)
    have n1 : p ≠ p2 := fun e => by subst e; rw [upd_same] at np2; cases np2
    have n2 : p ≠ p3 := fun e => by subst e; rw [upd_ne n1, upd_same] at np3; cases np3
    have w : ∀ d ∈ dTx (sg.map fun c => [c]), Wt d 1 0 := fun d hd => by
      unfold dTx at hd
      rw [List.map_map] at hd
      obtain ⟨c, hc, rfl⟩ := List.mem_map.mp hd
      refine Wt.text (fun x hx => ?_) (by simp)
      rw [List.mem_singleton.mp hx]
      have := hl.az c hc
      omega
    have sh := (Wt.list w (Nat.le_refl _)).shaped (by decide)
    refine ⟨.list (dTx (sg.map fun c => [c])), .list (dTx (sg.map fun c => [c])), .lst (xs := (sg.map fun c => [c]).map tx) (.inl (.inl ?_)) (dp_txs _), .lst (xs := (sg.map fun c => [c]).map tx) (.inl (.inl upd_same)) (dp_txs _), sh, sh, ?_⟩
    · rw [upd_ne n2, upd_ne n1, upd_same, List.map_map]
      rfl
    · have e : PyData.eqv (.list (dTx (sg.map fun c => [c]))) (.list (dTx (sg.map fun c => [c]))) = true := by
        show PyData.eqvAll _ _ = true
        unfold dTx
        rw [eqv_map (α := List Nat) _ (fun a b => ?_) _ _]
        · exact decide_eq_true rfl
        · show (tS a == tS b) = _
          by_cases h : a = b
          · subst h; simp
          · rw [decide_eq_false h]; exact beq_eq_false_iff_ne.mpr fun z => h (tS_inj z)
      rw [e]
      refine q _ (same_up (same_up s2 ?_) ?_)
      · exact s2.free np2
      · exact (same_up s2 (s2.free np2)).free np3
def spWantFew : Sp := fun vs H Q _ => ∃ (x : V) (m n : Int), vs = [x, .int m, .int n] ∧ m ≤ n ∧ Q .non H
theorem ok_want_few (T : All K mg) : FnOk P w K mg base CX0 1 T.f_want_few T.d_want_few ["what", "many", "limit"] spWantFew := by
  refine T.want_few.F.ok sc_want_few (fun vs H Q E h => ?_) (fun cdv A outer s H vs Q E hr h => ?_)
  · obtain ⟨x, m, n, rfl, _⟩ := h
    rfl
  · obtain ⟨x, m, n, rfl, hmn, q⟩ := h
    refine ⟨_, pss_one (ps_if (pt_cmpR op_gt (pv 1) (pv 2) (nomark _)) (pss_one ps_never) pss_nil), ?_⟩
    refine ⟨_, rfl, _, rfl, m, n, rfl, rfl, _, rfl, ite2 (fun e => ?_) (fun e => q)⟩
    have := of_decide_eq_true e
    show False
    omega
def spTextOver (K : PySem.W.Frag) : Sp := fun vs H Q _ => ∃ sg v, vs = [tx sg, v] ∧ ((∃ t, v = tx t ∧ t.length ≤ 2000 ∧ ∀ H', Same H H' → Q (.bl (t.all fun c => decide (c ∈ sg))) H') ∨ (∃ ty, TyX K H v ty ∧ PySem.W.kitOne K ty (.type "str") = some false ∧ Q (.bl false) H))
theorem ok_is_text_over (T : All K mg) : FnOk P w K mg base CX0 1 T.f_is_text_over T.d_is_text_over ["letters", "value"] (spTextOver K) := by
  refine T.is_text_over.F.ok sc_is_text_over (fun vs H Q E h => ?_) (fun cdv A outer s H vs Q E hr h => ?_)
  · obtain ⟨l, v, rfl, _⟩ := h
    rfl
  · obtain ⟨sg, v, rfl, h⟩ := h
    refine ⟨_, pss_one (ps_ret (pe_and (pe_callB call_isi (by rfl) T.b_isinstance boot_isinstance (pa_cons (pv 1) (pa_cons (pe_bltn (v := .ty "str") (by rfl) T.b_str (by decide +kernel) rfl) pa_nil)))
        (pe_one (pe_callB (cr_all rfl) (by rfl) T.b_all PyProof.Rows.boot_all (pa_cons (pe_lc (own := [("sign", 2)]) (g := gName 2) (tt := tYes) rfl sc_is_text_over.nd (pi_str (pv 1))
          (blkOk_by (own := [("sign", 2)]) (N := ["letters", "value", "sign"]) (sc := defScope s_is_text_over) (by decide +kernel))
          (fun _ _ _ _ _ => pg_name (i := 2) sc_is_text_over.nd rfl (by first | exact Or.inl rfl | exact Or.inr rfl)) (fun _ _ _ _ _ => pts_nil)
          (fun _ _ _ _ _ => (pe_cmpR op_in_sign (pv 2) (pv 0) (by rfl)))) pa_nil))))), ?_⟩
    rcases h with ⟨t, rfl, hz, q⟩ | ⟨ty, hty, hk, q⟩
    · refine ⟨tx t, rfl, tx t, .ty "str", .type "str", .type "str", true, rfl, .ty _, .base (.str _), kit_ty (by decide +kernel), true, rfl, iteT ?_⟩
      refine ⟨tx t, rfl, tS t, rfl, fun D nD => ?_⟩
      refine lc_gen walk_tx (Same H) (fun i acc => acc = ((t.take i).map fun c => decide (c ∈ sg)).map V.bl) (sz (by omega)) (fun i acc e => by rw [e]; simp; omega) rfl (same_upd nD) (fun _ _ h => same_up h nD) (fun _ _ => trivial) (fun i x H2 H3 acc C N hi r hD ha y c n => ?_) (fun H2 xs r hD ha => ?_)
      · obtain ⟨rfl, ch, hc, rfl⟩ := y
        refine ⟨rfl, yes_te ?_⟩
        refine ⟨_, rfl, _, rfl, ch, tS sg, rfl, rfl, ?_⟩
        refine c _ _ r hD ?_
        rw [ha, List.take_add_one, hc]
        simp [tS]
      · subst ha
        rw [List.take_length] at hD
        refine ⟨D, t.map fun c => decide (c ∈ sg), rfl, .inl (.inl hD), ?_⟩
        have e : (t.map fun c => decide (c ∈ sg)).all id = t.all fun c => decide (c ∈ sg) := by rw [List.all_map]; rfl
        rw [e]
        exact q _ r
    · refine ⟨v, rfl, v, .ty "str", ty, .type "str", false, rfl, .ty _, hty, hk, false, rfl, iteF q⟩
end
end Lw
namespace L3
open PySem PySem.Spec PyProof.Rows L2
theorem sIx_neg (n d : Nat) : HT.sIx n d (some (-1)) = n - 1 := by
  unfold HT.sIx
  cases n with
  | zero => simp
  | succ n => simp <;> omega
theorem cut_but (l : List Nat) : cutS (tS l) none (some (-1)) = tS l.dropLast := by
  unfold cutS
  rw [HT.sIx_none, sIx_neg, tS_len]
  show tS _ = _
  congr 1
  show (List.drop 0 l).take (l.length - 1 - 0) = l.dropLast
  rw [List.drop_zero, Nat.sub_zero, List.dropLast_eq_take]
theorem cut_last (l : List Nat) : cutS (tS l) (some (-1)) none = tS (l.drop (l.length - 1)) := by
  unfold cutS
  rw [HT.sIx_none, sIx_neg, tS_len]
  show tS _ = _
  congr 1
  show (List.drop (l.length - 1) l).take (l.length - (l.length - 1)) = _
  rw [List.take_of_length_le (by rw [List.length_drop]; exact Nat.le_refl _)]
def rSlN : V → Option Int → Option Int → Hp → VK → Prop := fun x lo hi H Q => ∃ l, x = tx l ∧ l.length ≤ sizeLine ∧
  ((lo = none ∧ hi = some (-1) ∧ Q (tx l.dropLast) H) ∨ (hi = none ∧ lo = some (-1) ∧ Q (tx (l.drop (l.length - 1))) H))
theorem sl_txN {X : Cx} : SlR X rSlN := by
  intro pins s σ H x v vl vu lo hi sl Q I rx hs pl pu h
  obtain ⟨l, rfl, hz, h⟩ := h
  refine sl_str pins s σ H _ v vl vu lo hi sl Q I rx hs pl pu ⟨_, rfl, by rw [tS_len]; exact hz, ?_⟩
  rcases h with ⟨rfl, rfl, q⟩ | ⟨rfl, rfl, q⟩
  · rw [cut_but]; exact q
  · rw [cut_last]; exact q
end L3
namespace L3
open PySem PySem.Spec PyProof.Rows L2
section
variable {J : It} {n : Nat} {G : Hp → Prop} {Y : Nat → Hp → V → Hp → Prop}
theorem lc2_it (w : Walk J n G Y) {g : TG} {tt : TT} {wi1 : TI} {vs : List Nat} {σ : L2.St} {H1 : Hp} {D : Addr} {Qd : Hp → Prop} {IN : L2.St → (Hp → Prop) → It → Hp → Prop} (Pv : Nat → Hp → Prop) (h0 : Pv 0 (upd H1 D (.lst []))) (hG : ∀ i H, i ≤ n → Pv i H → G H)
    (hs : ∀ i x H H', i < n → Pv i H → Y i H x H' → g x (wipe σ vs) H' fun σ2 H2 => wipe σ2 vs = wipe σ vs ∧ tt σ2 H2 fun b H3 =>
      if b = true then wi1 σ2 H3 fun J1 H4 => IN σ2 (Pv (i + 1)) J1 H4 else Pv (i + 1) H3) (hd : ∀ H, Pv n H → Qd H) :
    ∃ W : Nat → Nat → Hp → Prop, (∃ m, W 0 m (upd H1 D (.lst []))) ∧ ∀ i m H, W i m H →
      (J.stop i H ∧ Qd H) ∨ (J.go i H ∧ ∃ Nx : Hp → Prop, (∀ H', Nx H' → ∃ m', m' < m ∧ W (i + 1) m' H') ∧ ∀ x H', J.yld i H x H' → g x (wipe σ vs) H' fun σ2 H2 => wipe σ2 vs = wipe σ vs ∧ tt σ2 H2 fun b H3 =>
        if b = true then wi1 σ2 H3 fun J1 H4 => IN σ2 Nx J1 H4 else Nx H3) := by
  refine ⟨fun i m H => m = n - i ∧ i ≤ n ∧ Pv i H, ⟨n, by simp, Nat.zero_le _, h0⟩, ?_⟩
  rintro i m H ⟨rfl, hi, p⟩
  have q := hG i H hi p
  by_cases hlt : i < n
  · refine .inr ⟨w.goes i H hlt q, Pv (i + 1), fun H' p' => ⟨n - (i + 1), by omega, rfl, hlt, p'⟩, fun x H' y => hs i x H H' hlt p (w.yields i H x H' hlt q y)⟩
  · have e : i = n := by omega
    subst e
    exact .inl ⟨w.stops H q, hd H p⟩
theorem lc2_in (w : Walk J n G Y) {g1 : TG} {tt1 : TT} {te : TE} {vs1 : List Nat} {σ2 : L2.St} {H4 : Hp} {D : Addr} {Nx : Hp → Prop} (Pv : Nat → Hp → Prop) (h0 : Pv 0 H4) (hG : ∀ i H, i ≤ n → Pv i H → G H)
    (hs : ∀ j x H H', j < n → Pv j H → Y j H x H' → g1 x (wipe σ2 vs1) H' fun σ3 H5 => wipe σ3 vs1 = wipe σ2 vs1 ∧ tt1 σ3 H5 fun b H6 =>
      if b = true then te σ3 H6 fun y H7 => ∃ acc, H7 D = some (.lst acc) ∧ acc.length < sizeLine ∧ Pv (j + 1) (upd H7 D (.lst (acc ++ [y]))) else Pv (j + 1) H6) (hd : ∀ H, Pv n H → Nx H) :
    ∃ W1 : Nat → Nat → Hp → Prop, (∃ m, W1 0 m H4) ∧ ∀ j k H, W1 j k H →
      (J.stop j H ∧ Nx H) ∨ (J.go j H ∧ ∃ Nx1 : Hp → Prop, (∀ H', Nx1 H' → ∃ k', k' < k ∧ W1 (j + 1) k' H') ∧ ∀ x H', J.yld j H x H' → g1 x (wipe σ2 vs1) H' fun σ3 H5 => wipe σ3 vs1 = wipe σ2 vs1 ∧ tt1 σ3 H5 fun b H6 =>
        if b = true then te σ3 H6 fun y H7 => ∃ acc, H7 D = some (.lst acc) ∧ acc.length < sizeLine ∧ Nx1 (upd H7 D (.lst (acc ++ [y]))) else Nx1 H6) := by
  refine ⟨fun i m H => m = n - i ∧ i ≤ n ∧ Pv i H, ⟨n, by simp, Nat.zero_le _, h0⟩, ?_⟩
  rintro i m H ⟨rfl, hi, p⟩
  have q := hG i H hi p
  by_cases hlt : i < n
  · refine .inr ⟨w.goes i H hlt q, Pv (i + 1), fun H' p' => ⟨n - (i + 1), by omega, rfl, hlt, p'⟩, fun x H' y => hs i x H H' hlt p (w.yields i H x H' hlt q y)⟩
  · have e : i = n := by omega
    subst e
    exact .inl ⟨w.stops H q, hd H p⟩
end
end L3
namespace M23
open PySem PySem.Spec PyProof.Rows L2 L3
open PySem.W (dataLe dataLt keyToks keyToksAll alike)
open PyProof.Rows (itemOrd)
/-- a product as texts -/
def sS (p : Pd) : List Str := p.map tS
theorem sS_inj {p q : Pd} (h : sS p = sS q) : p = q := (List.map_inj_right (fun x y h => tS_inj h)).mp h
def dP (p : Pd) : PyData := dS (sS p)
def ple (a b : Pd) : Bool := dataLe false dP a b
theorem ple_eq (a b : Pd) : ple a b = !dataLt (dP b) (dP a) := rfl
theorem toks_inj : ∀ {k l : List Str}, keyToksAll (k.map .str) = keyToksAll (l.map .str) → k = l
  | [], [], _ => rfl
  | [], y :: l, h => by
    rw [List.map_cons, PySem.W.toks_all_cons, List.map_nil, keyToksAll] at h
    simp at h
  | x :: k, [], h => by
    rw [List.map_cons, PySem.W.toks_all_cons, List.map_nil, keyToksAll] at h
    simp at h
  | x :: k, y :: l, h => by
    rw [List.map_cons, List.map_cons, PySem.W.toks_all_cons, PySem.W.toks_all_cons] at h
    injection h with _ h
    have e : ∀ z : Str, keyToks (.str z) = [Sum.inr z.cps.toList] := fun z => by rw [keyToks]
    rw [e, e] at h
    injection h with h1 h2
    rw [toks_inj h2, PySem.W.str_of_cps (Sum.inr.inj h1)]
theorem ple_total (a b : Pd) : (ple a b || ple b a) = true := by
  rw [ple_eq, ple_eq]
  cases h1 : dataLt (dP b) (dP a) with
  | false => rfl
  | true =>
    cases h2 : dataLt (dP a) (dP b) with
    | false => rfl
    | true =>
      have := PyProof.Rows.lex_trans (O := itemOrd) _ _ _ h1 h2
      rw [PyProof.Rows.lex_irrefl] at this
      cases this
theorem ple_trans (a b c : Pd) (h1 : ple a b = true) (h2 : ple b c = true) : ple a c = true := by
  rw [ple_eq, Bool.not_eq_true'] at h1 h2 ⊢
  cases h : dataLt (dP c) (dP a) with
  | false => rfl
  | true =>
    rcases PyProof.Rows.lex_negTrans (O := itemOrd) _ (keyToks (dP b)) _ h with g | g
    · exact absurd (show dataLt (dP c) (dP b) = true from g) (by rw [h2]; decide)
    · exact absurd (show dataLt (dP b) (dP a) = true from g) (by rw [h1]; decide)
theorem ple_anti {a b : Pd} (h1 : ple a b = true) (h2 : ple b a = true) : a = b := by
  rw [ple_eq, Bool.not_eq_true'] at h1 h2
  have e : keyToks (dP a) = keyToks (dP b) := PyProof.Rows.lex_total (O := itemOrd) _ _ h2 h1
  refine sS_inj (toks_inj ?_)
  unfold dP dS at e
  simpa [keyToks] using e
theorem sorted_uniq {l m : List Pd} (p : l.Perm m) (h1 : l.Pairwise fun a b => ple a b = true) (h2 : m.Pairwise fun a b => ple a b = true) : l = m :=
  p.eq_of_pairwise (fun a b _ _ x y => ple_anti x y) h1 h2
theorem sorted_sort (l : List Pd) : (l.mergeSort ple).Pairwise fun a b => ple a b = true := List.pairwise_mergeSort ple_trans ple_total l
/-- each once -/
def ded : List Pd → List Pd
  | [] => []
  | x :: l => if x ∈ l then ded l else x :: ded l
theorem ded_mem {x : Pd} : ∀ {l : List Pd}, x ∈ ded l ↔ x ∈ l
  | [] => Iff.rfl
  | y :: l => by
    unfold ded
    split
    · rename_i h
      rw [ded_mem (l := l), List.mem_cons]
      exact ⟨.inr, fun z => z.elim (fun e => e ▸ h) id⟩
    · rw [List.mem_cons, List.mem_cons, ded_mem (l := l)]
theorem ded_nodup : ∀ l : List Pd, (ded l).Nodup
  | [] => List.nodup_nil
  | y :: l => by
    unfold ded
    split
    · exact ded_nodup l
    · rename_i h
      exact List.nodup_cons.mpr ⟨fun z => h (ded_mem.mp z), ded_nodup l⟩
/-- the members, each once, in order -/
def canon (S : List Pd) : List Pd := (ded S).mergeSort ple
theorem canon_mem {x : Pd} {S : List Pd} : x ∈ canon S ↔ x ∈ S := by unfold canon; rw [(List.mergeSort_perm _ _).mem_iff, ded_mem]
theorem canon_nodup (S : List Pd) : (canon S).Nodup := (List.mergeSort_perm _ _).nodup_iff.mpr (ded_nodup S)
theorem canon_sorted (S : List Pd) : (canon S).Pairwise fun a b => ple a b = true := sorted_sort _
theorem canon_uniq {S L : List Pd} (hn : L.Nodup) (hs : L.Pairwise fun a b => ple a b = true) (hm : ∀ x, x ∈ L ↔ x ∈ S) : L = canon S :=
  sorted_uniq ((List.perm_ext_iff_of_nodup hn (canon_nodup S)).mpr fun x => by rw [hm, canon_mem]) hs (canon_sorted S)
theorem ded_len : ∀ l : List Pd, (ded l).length ≤ l.length
  | [] => Nat.le_refl _
  | y :: l => by
    have := ded_len l
    unfold ded
    split
    · rw [List.length_cons]; omega
    · rw [List.length_cons, List.length_cons]; omega
theorem canon_len (S : List Pd) : (canon S).length ≤ S.length := by unfold canon; rw [List.length_mergeSort]; exact ded_len S
/-- what is kept of reduced products -/
def maxs (S : List Pd) : List Pd := (canon S).filter fun p => decide (∀ q ∈ canon S, q ≠ p → run q p = none)
def kept (ps : List Pd) : List Pd := maxs (ps.map redOf)
theorem none_iff {p q : Pd} : run q p = none ↔ ¬ Emb p q := by
  rw [← run_emb]
  cases run q p <;> simp
theorem maxs_mem {S : List Pd} {p : Pd} : p ∈ maxs S ↔ Max S p := by
  unfold maxs
  rw [List.mem_filter, decide_eq_true_iff, canon_mem]
  exact and_congr_right fun _ => ⟨fun h q hq hne => none_iff.mp (h q (canon_mem.mpr hq) hne), fun h q hq hne => none_iff.mpr (h q (canon_mem.mp hq) hne)⟩
theorem maxs_eq {S T : List Pd} (h : ∀ p, Max S p ↔ Max T p) : maxs S = maxs T := by
  have sn : ∀ U : List Pd, (maxs U).Nodup := fun U => (canon_nodup U).filter _
  have ss : ∀ U : List Pd, (maxs U).Pairwise fun a b => ple a b = true := fun U => (canon_sorted U).filter _
  exact sorted_uniq ((List.perm_ext_iff_of_nodup (sn S) (sn T)).mpr fun p => by rw [maxs_mem, maxs_mem]; exact h p) (ss S) (ss T)
end M23
namespace M23
def pbG : Pd → Nat → Pc → Option Nat
  | [], _, _ => none
  | y :: r, k, x => if holds y x then some (if isS y then k else k + 1) else pbG r (k + 1) x
/-- how far one is behind x -/
def pb (q : Pd) (i : Nat) (x : Pc) : Option Nat := pbG (q.drop i) i x
def runI (q : Pd) (i : Nat) : Pd → Option Nat
  | [] => some i
  | x :: p => (pb q i x).bind fun k => runI q k p
/-- as a number -/
def enc : Option Nat → Int
  | none => -1
  | some k => (k : Int)
theorem enc_lost : ∀ {a : Option Nat}, enc a = -1 ↔ a = none
  | none => ⟨fun _ => rfl, fun _ => rfl⟩
  | some k => ⟨fun h => by have h : (k : Int) = -1 := h; omega, fun h => by cases h⟩
theorem pbG_step {q : Pd} : ∀ {r : Pd} {k : Nat} {x : Pc}, q.drop k = r → step r x = (pbG r k x).map fun j => q.drop j
  | [], k, x, _ => rfl
  | y :: r, k, x, h => by
    have h2 : q.drop (k + 1) = r := by rw [← List.drop_drop, h]; rfl
    unfold step pbG
    split
    · split
      · rw [Option.map_some, h]
      · rw [Option.map_some, h2]
    · exact pbG_step h2
theorem step_pb (q : Pd) (i : Nat) (x : Pc) : step (q.drop i) x = (pb q i x).map fun j => q.drop j := pbG_step rfl
theorem run_runI (q : Pd) : ∀ (p : Pd) (i : Nat), run (q.drop i) p = (runI q i p).map fun j => q.drop j
  | [], i => rfl
  | x :: p, i => by
    show (step (q.drop i) x).bind _ = ((pb q i x).bind _).map _
    rw [step_pb]
    cases pb q i x with
    | none => rfl
    | some k => exact run_runI q p k
theorem runI_some {q p : Pd} : (runI q 0 p).isSome = true ↔ Emb p q := by
  rw [← run_emb]
  have := run_runI q p 0
  rw [List.drop_zero] at this
  rw [this, Option.isSome_map]
theorem pbG_le : ∀ {r : Pd} {k j : Nat} {x : Pc}, pbG r k x = some j → k ≤ j ∧ j ≤ k + r.length
  | [], _, _, _, h => by cases h
  | y :: r, k, j, x, h => by
    unfold pbG at h
    split at h
    · cases h
      rw [List.length_cons]
      split <;> omega
    · have := pbG_le h
      rw [List.length_cons]
      omega
theorem pb_le {q : Pd} {i j : Nat} {x : Pc} (h : pb q i x = some j) (hi : i ≤ q.length) : i ≤ j ∧ j ≤ q.length := by
  have := pbG_le h
  rw [List.length_drop] at this
  omega
theorem pb_none {q : Pd} {x : Pc} : ∀ (n i : Nat), q.length - i = n → (∀ j y, i ≤ j → q[j]? = some y → holds y x = false) → pb q i x = none
  | 0, i, hn, _ => by
    unfold pb
    rw [List.drop_of_length_le (by omega)]
    rfl
  | n + 1, i, hn, h => by
    have hi : i < q.length := by omega
    have e : q.drop i = q[i] :: q.drop (i + 1) := List.drop_eq_getElem_cons hi
    unfold pb
    rw [e]
    unfold pbG
    rw [h i q[i] (Nat.le_refl _) (List.getElem?_eq_getElem hi), if_neg (by decide)]
    exact pb_none n (i + 1) (by omega) fun j y hj hy => h j y (by omega) hy
theorem pb_found {q : Pd} {x y : Pc} {k : Nat} (hk : q[k]? = some y) (hh : holds y x = true) : ∀ (n i : Nat), k - i = n → i ≤ k → (∀ j y, i ≤ j → j < k → q[j]? = some y → holds y x = false) → pb q i x = some (if isS y then k else k + 1)
  | 0, i, hn, hi, _ => by
    obtain rfl : i = k := by omega
    have hl := (List.getElem?_eq_some_iff.mp hk)
    obtain ⟨hl, e1⟩ := hl
    have e : q.drop i = q[i] :: q.drop (i + 1) := List.drop_eq_getElem_cons hl
    unfold pb
    rw [e, e1]
    unfold pbG
    rw [if_pos hh]
  | n + 1, i, hn, hi, h => by
    obtain ⟨hl, _⟩ := List.getElem?_eq_some_iff.mp hk
    have hi' : i < q.length := by omega
    have e : q.drop i = q[i] :: q.drop (i + 1) := List.drop_eq_getElem_cons hi'
    have := pb_found hk hh n (i + 1) (by omega) (by omega) fun j y hj hjk hy => h j y (by omega) hjk hy
    unfold pb
    rw [e]
    unfold pbG
    rw [h i q[i] (Nat.le_refl _) (by omega) (List.getElem?_eq_getElem hi'), if_neg (by decide)]
    exact this
theorem runI_append (q : Pd) : ∀ (a : Pd) (i : Nat) (b : Pd), runI q i (a ++ b) = (runI q i a).bind fun k => runI q k b
  | [], _, _ => rfl
  | x :: a, i, b => by
    show (pb q i x).bind _ = ((pb q i x).bind _).bind _
    cases pb q i x with
    | none => rfl
    | some k => exact runI_append q a k b
theorem runI_le {q : Pd} : ∀ {p : Pd} {i j : Nat}, i ≤ q.length → runI q i p = some j → j ≤ q.length
  | [], i, j, h, e => by cases e; exact h
  | x :: p, i, j, h, e => by
    unfold runI at e
    cases hp : pb q i x with
    | none => rw [hp] at e; cases e
    | some k => rw [hp] at e; exact runI_le (pb_le hp h).2 e
/-- t is one of the texts of some of the products -/
def InS (ps : List Pd) (t : List Nat) : Prop := ∃ p ∈ ps, In p t
def AllOk (ps : List Pd) : Prop := ∀ p ∈ ps, ∀ x ∈ p, Ok x
theorem red_good {ps : List Pd} (h : AllOk ps) : ∀ p ∈ ps.map redOf, Good p := fun p hp => by
  obtain ⟨q, hq, rfl⟩ := List.mem_map.mp hp
  exact redOf_good (h q hq)
theorem inS_red {ps : List Pd} {t : List Nat} : InS (ps.map redOf) t ↔ InS ps t := by
  constructor
  · rintro ⟨p, hp, h⟩
    obtain ⟨q, hq, rfl⟩ := List.mem_map.mp hp
    exact ⟨q, hq, (eqv_in (redOf_eqv q) t).mpr h⟩
  · rintro ⟨p, hp, h⟩
    exact ⟨_, List.mem_map.mpr ⟨p, hp, rfl⟩, (eqv_in (redOf_eqv p) t).mp h⟩
theorem inS_maxs {S : List Pd} (h : ∀ p ∈ S, Good p) {t : List Nat} : InS (maxs S) t ↔ InS S t := by
  constructor
  · rintro ⟨p, hp, g⟩
    exact ⟨p, (maxs_mem.mp hp).1, g⟩
  · rintro ⟨p, hp, g⟩
    obtain ⟨k, k1, k2⟩ := max_sub h hp
    exact ⟨k, maxs_mem.mpr k1, g.up k2⟩
theorem inS_kept {ps : List Pd} (h : AllOk ps) {t : List Nat} : InS (kept ps) t ↔ InS ps t := (inS_maxs (red_good h)).trans inS_red
theorem kept_mem {ps : List Pd} {p : Pd} (h : p ∈ kept ps) : ∃ q ∈ ps, p = redOf q := by
  obtain ⟨q, hq, e⟩ := List.mem_map.mp (maxs_mem.mp h).1
  exact ⟨q, hq, e.symm⟩
theorem kept_good {ps : List Pd} (h : AllOk ps) : ∀ p ∈ kept ps, Good p := fun p hp => red_good h p (maxs_mem.mp hp).1
theorem kept_ok {ps : List Pd} (h : AllOk ps) : AllOk (kept ps) := fun p hp => (kept_good h p hp).ok
theorem kept_len (ps : List Pd) : (kept ps).length ≤ ps.length := by
  have h1 := List.length_filter_le (fun p => decide (∀ q ∈ canon (ps.map redOf), q ≠ p → run q p = none)) (canon (ps.map redOf))
  have h2 := canon_len (ps.map redOf)
  rw [List.length_map] at h2
  exact Nat.le_trans h1 h2
/-- the same texts, the same kept -/
theorem kept_eq {ps qs : List Pd} (hp : AllOk ps) (hq : AllOk qs) (h : ∀ t, InS ps t ↔ InS qs t) : kept ps = kept qs :=
  maxs_eq (max_iff (red_good hp) (red_good hq) (fun t ht => inS_red.mpr ((h t).mp (inS_red.mp ht))) (fun t ht => inS_red.mpr ((h t).mpr (inS_red.mp ht))))
theorem red_self {p : Pd} (h : Good p) : redOf p = p := redOf_uniq h.ok h.ok h.red (.refl p)
theorem kept_kept {ps : List Pd} (h : AllOk ps) : kept (kept ps) = kept ps := kept_eq (kept_ok h) h fun t => inS_kept h
end M23
namespace Lw
open PySem PySem.Spec PyProof.Rows L3
open L2 hiding del del_same del_ne
def PcOk (sg : List Nat) (x : List Nat) : Prop := (∃ c ∈ sg, x = [c]) ∨ ∃ l : List Nat, l ≠ [] ∧ l.Pairwise (· < ·) ∧ (∀ c ∈ l, c ∈ sg) ∧ x = l ++ [42]
def PdOk (sg : List Nat) (p : M23.Pd) : Prop := ∀ x ∈ p, PcOk sg x
theorem Lets.no {sg : List Nat} (h : Lets sg) : 42 ∉ sg := fun z => by have := h.az 42 z; omega
theorem PcOk.ok {sg x : List Nat} (hl : Lets sg) (h : PcOk sg x) : M23.Ok x := by
  rcases h with ⟨c, hc, rfl⟩ | ⟨l, h1, h2, h3, rfl⟩
  · exact .inl ⟨c, fun e => hl.no (e ▸ hc), rfl⟩
  · exact .inr ⟨l, h1, h2, fun z => hl.no (h3 _ z), rfl⟩
theorem PdOk.ok {sg : List Nat} {p : M23.Pd} (hl : Lets sg) (h : PdOk sg p) : ∀ x ∈ p, M23.Ok x := fun x hx => (h x hx).ok hl
theorem PcOk.lts {sg x : List Nat} (hl : Lets sg) (h : PcOk sg x) : ∀ c ∈ M23.lt x, c ∈ sg := by
  rcases h with ⟨c, hc, rfl⟩ | ⟨l, h1, h2, h3, rfl⟩
  · rw [M23.lt_one fun e => hl.no (e ▸ hc)]
    intro d hd
    rw [List.mem_singleton.mp hd]
    exact hc
  · rw [M23.lt_star]; exact h3
theorem sub_lets {sg l : List Nat} (hl : Lets sg) (h2 : l.Pairwise (· < ·)) (h3 : ∀ c ∈ l, c ∈ sg) : l.length ≤ 3 :=
  Nat.le_trans (L2.nat_nodup_len l sg (h2.imp fun h => Nat.ne_of_lt h) h3) hl.few
theorem PcOk.len {sg x : List Nat} (hl : Lets sg) (h : PcOk sg x) : x.length ≤ 4 := by
  rcases h with ⟨c, hc, rfl⟩ | ⟨l, h1, h2, h3, rfl⟩
  · simp
  · have := sub_lets hl h2 h3
    rw [List.length_append]
    show l.length + 1 ≤ 4
    omega
theorem PcOk.up {sg x : List Nat} (hl : Lets sg) (h : PcOk sg x) : (M23.lt x).Pairwise (· < ·) ∧ M23.lt x ≠ [] ∧ (M23.lt x).length ≤ if M23.isS x then 3 else 1 := by
  rcases h with ⟨c, hc, rfl⟩ | ⟨l, h1, h2, h3, rfl⟩
  · have n : c ≠ 42 := fun e => hl.no (e ▸ hc)
    rw [M23.lt_one n, M23.isS_one n]
    exact ⟨List.pairwise_singleton _ _, by simp, by simp⟩
  · rw [M23.lt_star, M23.isS_star, if_pos rfl]
    exact ⟨h2, h1, sub_lets hl h2 h3⟩
theorem yes_tk {σ : L2.St} {H : Hp} {F N : Hp → Prop} (h : F H) : tYes σ H fun b H3 => if b = true then F H3 else N H3 := by
  show (if true = true then F H else N H)
  rw [if_pos rfl]
  exact h
theorem lt_len (x : List Nat) : (M23.lt x).length ≤ x.length := by
  unfold M23.lt
  split
  · rw [List.length_dropLast]; omega
  · exact Nat.le_refl _
theorem all_id_rep (n : Nat) : (List.replicate n true).all id = true := by
  induction n with
  | zero => rfl
  | succ n ih => rw [List.replicate_succ, List.all_cons, ih]; rfl
theorem last_one {x : List Nat} : decide (tx (x.drop (x.length - 1)) = V.str "*") = M23.isS x := by
  have e : (V.str "*") = tx [42] := by decide +kernel
  rw [e]
  unfold M23.isS
  have key : (tx (x.drop (x.length - 1)) = tx [42]) ↔ x.getLast? = some 42 := by
    refine Iff.trans ⟨tx_inj, congrArg tx⟩ ?_
    rcases List.eq_nil_or_concat x with rfl | ⟨l, a, rfl⟩
    · simp
    · simp
  by_cases h : x.getLast? = some 42
  · rw [decide_eq_true (key.mpr h), h]; rfl
  · rw [decide_eq_false fun z => h (key.mp z)]
    exact (beq_eq_false_iff_ne.mpr h).symm
section
variable {P : Program} {w : World} {K : PySem.W.Frag} {mg : Str → Option Value} {base : Heap}
def spIsStar : Sp := fun vs H Q _ => ∃ x, vs = [tx x] ∧ x.length ≤ 10000 ∧ Q (.bl (M23.isS x)) H
theorem ok_is_star (T : All K mg) : FnOk P w K mg base CX0 1 T.f_is_star T.d_is_star ["piece"] spIsStar := by
  refine T.is_star.F.ok sc_is_star (fun vs H Q E h => ?_) (fun cdv A outer s H vs Q E hr h => ?_)
  · obtain ⟨x, rfl, _⟩ := h
    rfl
  · obtain ⟨x, rfl, hz, q⟩ := h
    obtain ⟨t1, hSTAR⟩ := T.c_STAR
    refine ⟨_, pss_one (ps_ret (pe_cmpR op_eq (pe_slice sl_txN (pv 0) (po_some (pe_un un_neg pe_int)) po_none) (pe_glob (v := .str "*") rfl hSTAR ⟨_, rfl⟩) (by rfl))), ?_⟩
    refine ⟨_, rfl, 1, rfl, _, rfl, x, rfl, sz (by omega), .inr ⟨rfl, rfl, rfl, ?_⟩⟩
    rw [last_one]
    exact q
def spLettersIn : Sp := fun vs H Q _ => ∃ x, vs = [tx x] ∧ x.length ≤ 10000 ∧ Q (tx (M23.lt x)) H
theorem ok_letters_in (T : All K mg) : FnOk P w K mg base CX0 2 T.f_letters_in T.d_letters_in ["piece"] spLettersIn := by
  refine T.letters_in.F.ok sc_letters_in (fun vs H Q E h => ?_) (fun cdv A outer s H vs Q E hr h => ?_)
  · obtain ⟨x, rfl, _⟩ := h
    rfl
  · obtain ⟨x, rfl, hz, q⟩ := h
    refine ⟨_, pss_one (ps_ret (pe_ifExp (pt_val (pe_call (ok_is_star T) (hr.mono (by decide)) (by rfl) T.is_star.g T.is_star.F.kp T.is_star.b .nil pass0 (pa_cons (pv 0) pa_nil))) (pe_slice sl_txN (pv 0) po_none (po_some (pe_un un_neg pe_int))) (pv 0))), ?_⟩
    unfold M23.lt at q
    refine ⟨_, rfl, x, rfl, hz, _, rfl, ite2 (fun e => ?_) (fun e => ?_)⟩
    · rw [if_pos e] at q
      exact ⟨_, rfl, 1, rfl, _, rfl, x, rfl, sz (by omega), .inl ⟨rfl, rfl, q⟩⟩
    · rw [if_neg e] at q
      exact ⟨_, rfl, q⟩
def spRising : Sp := fun vs H Q _ => ∃ l, vs = [tx l] ∧ l.length ≤ 3 ∧ (∀ c ∈ l, 97 ≤ c ∧ c ≤ 122) ∧ l.Pairwise (· < ·) ∧ ∀ H', Same H H' → Q (.bl true) H'
theorem ok_are_rising (T : All K mg) : FnOk P w K mg base CX0 1 T.f_are_rising T.d_are_rising ["letters"] spRising := by
  refine T.are_rising.F.ok sc_are_rising (fun vs H Q E h => ?_) (fun cdv A outer s H vs Q E hr h => ?_)
  · obtain ⟨l, rfl, _⟩ := h
    rfl
  · obtain ⟨l, rfl, h3, haz, hup, q⟩ := h
    obtain ⟨t1, hSMALL_products⟩ := T.c_SMALL_products
    refine ⟨_, pss_cons (ps_if (pt_not (pt_val (pe_callB (cr_all rfl) (by rfl) T.b_all PyProof.Rows.boot_all (pa_cons (pe_lc (own := [("letter", 1)]) (g := gName 1) (tt := tYes) rfl sc_are_rising.nd (pi_str (pv 0))
          (blkOk_by (own := [("letter", 1)]) (N := ["letters", "letter", "at"]) (sc := defScope s_are_rising) (by decide +kernel))
          (fun _ _ _ _ _ => pg_name (i := 1) sc_are_rising.nd rfl (by first | exact Or.inl rfl | exact Or.inr rfl)) (fun _ _ _ _ _ => pts_nil)
          (fun _ _ _ _ _ => (pe_cmpR op_in_sign (pv 1) (pe_glob (v := .str "abcdefghijklmnopqrstuvwxyz") rfl hSMALL_products ⟨_, rfl⟩) (by rfl)))) pa_nil)))) (pss_one (ps_ret pe_bl)) pss_nil)
      (pss_one (ps_ret (pe_callB (cr_all rfl) (by rfl) T.b_all PyProof.Rows.boot_all (pa_cons (pe_lc (own := [("at", 2)]) (g := gName 2) (tt := tYes) rfl sc_are_rising.nd (pi_range1 rfl T.b_range (pa_cons (pe_op op_sub (pe_callB call_lenT (by rfl) T.b_len PySem.boot_len (pa_cons (pv 0) pa_nil)) pe_int) pa_nil))
          (blkOk_by (own := [("at", 2)]) (N := ["letters", "letter", "at"]) (sc := defScope s_are_rising) (by decide +kernel))
          (fun _ _ _ _ _ => pg_name (i := 2) sc_are_rising.nd rfl (by first | exact Or.inl rfl | exact Or.inr rfl)) (fun _ _ _ _ _ => pts_nil)
          (fun _ _ _ _ _ => (pe_cmpR op_lt_str (pe_ix ix_tx (pv 0) (pv 2) (fun _ _ => rfl)) (pe_ix ix_tx (pv 0) (pe_op op_add (pv 2) pe_int) (fun _ _ => rfl)) (by rfl)))) pa_nil)))), ?_⟩
    refine ⟨_, rfl, tS l, rfl, fun D nD => ?_⟩
    refine lc_gen walk_tx (Same H) (fun i acc => acc = List.replicate i (.bl true)) (sz (by omega)) (fun i acc e => by rw [e]; simp) rfl (same_upd nD) (fun _ _ h => same_up h nD) (fun _ _ => trivial) (fun i x H2 H3 acc C N hi r hD ha y c n => ?_) (fun H2 xs r hD ha => ?_)
    · obtain ⟨rfl, ch, hc, rfl⟩ := y
      refine ⟨rfl, yes_te ⟨_, rfl, ch, _, rfl, rfl, c _ _ r hD ?_⟩⟩
      rw [ha, List.replicate_succ', decide_eq_true (small_mem (haz ch (List.mem_of_getElem? hc)))]
    subst ha
    refine ⟨D, List.replicate _ true, rfl, .inl (.inl (by rw [hD, List.map_replicate])), _, rfl, ?_⟩
    rw [all_id_rep]
    refine iteF ?_
    dsimp only [tNext]
    refine ⟨_, rfl, l, rfl, sz (by omega), _, _, rfl, rfl, ?_⟩
    refine ⟨_, rfl, by omega, by omega, fun D2 nD2 => ?_⟩
    have nD3 := r.free nD2
    have r2 := same_up (o := .lst []) r nD3
    refine lc_gen walk_range (Same H) (fun i acc => acc = List.replicate i (.bl true)) (sz (by omega)) (fun i acc e => by rw [e]; simp) rfl r2 (fun _ _ h => same_up h nD3) (fun _ _ => trivial) (fun i x H4 H5 acc C N hi r' hD' ha y c n => ?_) (fun H4 xs r' hD' ha => ?_)
    · obtain ⟨rfl, rfl⟩ := y
      have hi1 : i + 1 < l.length := by omega
      have h1 := List.getElem?_eq_getElem (l := l) (i := i) (by omega)
      have h2 := List.getElem?_eq_getElem hi1
      refine ⟨rfl, yes_te ⟨_, rfl, _, rfl, l, i, _, rfl, congrArg V.int (Int.zero_add _), sz (by omega), h1, _, rfl, _, rfl, _, _, rfl, rfl, l, i + 1, _, rfl, congrArg V.int (by omega), sz (by omega), h2, _, _, rfl, rfl, c _ _ r' hD' ?_⟩⟩
      rw [ha, List.replicate_succ']
      have hlt := List.pairwise_iff_getElem.mp hup i (i + 1) (by omega) hi1 (by omega)
      have : decide ((tS [l[i]]).cps.toList < (tS [l[i + 1]]).cps.toList) = true := decide_eq_true (List.cons_lt_cons_iff.mpr (.inl hlt))
      rw [this]
    subst ha
    refine ⟨D2, List.replicate _ true, rfl, .inl (.inl (by rw [hD', List.map_replicate])), ?_⟩
    rw [all_id_rep]
    exact q _ r'
def spIsPiece : Sp := fun vs H Q _ => ∃ sg x, vs = [tx x] ∧ Lets sg ∧ PcOk sg x ∧ ∀ H', Same H H' → Q (.bl true) H'
theorem ok_is_piece (T : All K mg) : FnOk P w K mg base CX0 3 T.f_is_piece T.d_is_piece ["value"] spIsPiece := by
  refine T.is_piece.F.ok sc_is_piece (fun vs H Q E h => ?_) (fun cdv A outer s H vs Q E hr h => ?_)
  · obtain ⟨sg, x, rfl, _⟩ := h
    rfl
  · obtain ⟨sg, x, rfl, hl, hx, q⟩ := h
    obtain ⟨t1, hMOST_IN_STAR⟩ := T.c_MOST_IN_STAR
    have hz := hx.len hl
    obtain ⟨u1, u2, u3⟩ := hx.up hl
    have hin := hx.lts hl
    have h3 : (M23.lt x).length ≤ 3 := by
      split at u3 <;> omega
    refine ⟨_, pss_cons (ps_if (PW.pt (pw_or (pt_not (pt_val (pe_callB call_isi (by rfl) T.b_isinstance boot_isinstance (pa_cons (pv 0) (pa_cons (pe_bltn (v := .ty "str") (by rfl) T.b_str (by decide +kernel) rfl) pa_nil))))) (pw_or1 (pt_not (pt_val (pe_call (ok_are_rising T) (hr.mono (by decide)) (by rfl) T.are_rising.g T.are_rising.F.kp T.are_rising.b .nil pass0 (pa_cons (pe_call (ok_letters_in T) (hr.mono (by decide)) (by rfl) T.letters_in.g T.letters_in.F.kp T.letters_in.b .nil pass0 (pa_cons (pv 0) pa_nil)) pa_nil))))))) (pss_one (ps_ret pe_bl)) pss_nil)
      (pss_one (ps_ret (pe_chain op_le op_le pe_int (pe_callB call_lenT (by rfl) T.b_len PySem.boot_len (pa_cons (pe_call (ok_letters_in T) (hr.mono (by decide)) (by rfl) T.letters_in.g T.letters_in.F.kp T.letters_in.b .nil pass0 (pa_cons (pv 0) pa_nil)) pa_nil)) (pe_ifExp (pt_val (pe_call (ok_is_star T) (hr.mono (by decide)) (by rfl) T.is_star.g T.is_star.F.kp T.is_star.b .nil pass0 (pa_cons (pv 0) pa_nil))) (pe_glob (v := .int 3) rfl hMOST_IN_STAR ⟨_, rfl⟩) pe_int)))), ?_⟩
    refine ⟨tx x, rfl, tx x, .ty "str", .type "str", .type "str", true, rfl, .ty _, .base (.str _), kit_ty (by decide +kernel), true, rfl, iteF ?_⟩
    refine ⟨_, rfl, x, rfl, by omega, M23.lt x, rfl, h3, fun c hc => hl.az c (hin c hc), u1, fun H1 s1 => ⟨true, rfl, iteF ?_⟩⟩
    dsimp only [tNext]
    refine ⟨_, rfl, x, rfl, by omega, M23.lt x, rfl, sz (by omega), _, _, rfl, rfl, _, rfl, ?_⟩
    have hpos : 1 ≤ (M23.lt x).length := List.length_pos_iff.mpr u2
    refine ite_t (decide_eq_true (by omega)) ⟨_, rfl, x, rfl, by omega, _, rfl, ite2 (fun e => ?_) (fun e => ?_)⟩
    · rw [if_pos e] at u3
      refine ⟨_, _, rfl, rfl, ?_⟩
      show Q (.bl (decide (((M23.lt x).length : Int) ≤ 3))) H1
      rw [decide_eq_true (show ((M23.lt x).length : Int) ≤ 3 by omega)]
      exact q _ s1
    · rw [if_neg e] at u3
      refine ⟨_, _, rfl, rfl, ?_⟩
      show Q (.bl (decide (((M23.lt x).length : Int) ≤ 1))) H1
      rw [decide_eq_true (show ((M23.lt x).length : Int) ≤ 1 by omega)]
      exact q _ s1
theorem dp_txs_eq {H : Hp} : ∀ {p : M23.Pd} {xs : List V}, DpAll K H xs ((M23.sS p).map PyData.str) → xs = p.map tx
  | [], _, .nil => rfl
  | x :: p, _, .cons h1 h2 => by
    rw [dp_txs_eq h2, dp_str h1]
    rfl
theorem dp_pd {H : Hp} {v : V} {p : M23.Pd} (h : Dp K H v (M23.dP p)) : ∃ a, v = .ref a ∧ SqT K H a (p.map tx) := by
  obtain ⟨a, xs, rfl, hs, ha⟩ := dp_tuple h
  refine ⟨a, rfl, ?_⟩
  rw [← dp_txs_eq ha]
  exact hs
def spIsProduct (K : PySem.W.Frag) : Sp := fun vs H Q _ => ∃ sg v p, vs = [v] ∧ Lets sg ∧ PdOk sg p ∧ p.length ≤ 1000 ∧ Dp K H v (M23.dP p) ∧ ∀ H', Same H H' → Q (.bl true) H'
theorem ok_is_product (T : All K mg) : FnOk P w K mg base CX0 4 T.f_is_product T.d_is_product ["value"] (spIsProduct K) := by
  refine T.is_product.F.ok sc_is_product (fun vs H Q E h => ?_) (fun cdv A outer s H vs Q E hr h => ?_)
  · obtain ⟨sg, v, p, rfl, _⟩ := h
    rfl
  · obtain ⟨sg, v, p, rfl, hl, hp, hz, hd, q⟩ := h
    obtain ⟨a, rfl, hs⟩ := dp_pd hd
    refine ⟨_, pss_one (ps_ret (pe_and (pe_callB call_isi (by rfl) T.b_isinstance boot_isinstance (pa_cons (pv 0) (pa_cons (pe_bltn (v := .ty "tuple") (by rfl) T.b_tuple (by decide +kernel) rfl) pa_nil)))
        (pe_one (pe_callB (cr_all rfl) (by rfl) T.b_all PyProof.Rows.boot_all (pa_cons (pe_lc (own := [("piece", 1)]) (g := gName 1) (tt := tYes) rfl sc_is_product.nd (pi_tup (pv 0))
          (blkOk_by (own := [("piece", 1)]) (N := ["value", "piece"]) (sc := defScope s_is_product) (by decide +kernel))
          (fun _ _ _ _ _ => pg_name (i := 1) sc_is_product.nd rfl (by first | exact Or.inl rfl | exact Or.inr rfl)) (fun _ _ _ _ _ => pts_nil)
          (fun _ _ _ _ _ => (pe_call (ok_is_piece T) (hr.mono (by decide)) (by rfl) T.is_piece.g T.is_piece.F.kp T.is_piece.b .nil pass0 (pa_cons (pv 1) pa_nil)))) pa_nil))))), ?_⟩
    refine ⟨_, rfl, .ref a, .ty "tuple", .type "tuple", .type "tuple", true, rfl, .ty _, ty_tuple hs, kit_ty (by decide +kernel), true, rfl, ite_t rfl ?_⟩
    refine ⟨_, rfl, a, rfl, ⟨_, hs⟩, fun D nD => ?_⟩
    refine lc_gen (walk_tup (xs := p.map tx)) (Same H) (fun i acc => acc = List.replicate i (.bl true)) (sz (by rw [List.length_map]; omega)) (fun i acc e => by rw [e]; simp) rfl (same_upd nD) (fun _ _ h => same_up h nD) (fun _ h => sqT_same hs h) (fun i x H2 H3 acc C N hi r hD ha y c n => ?_) (fun H2 xs r hD ha => ?_)
    · obtain ⟨rfl, y⟩ := y
      rw [List.getElem?_map] at y
      obtain ⟨u, hu, rfl⟩ := Option.map_eq_some_iff.mp y
      refine ⟨rfl, yes_te ⟨_, rfl, sg, u, rfl, hl, hp u (List.mem_of_getElem? hu), fun H4 s4 => c _ _ (r.trans s4) (s4 _ _ hD) ?_⟩⟩
      rw [ha, List.replicate_succ']
    subst ha
    refine ⟨D, List.replicate _ true, rfl, .inl (.inl (by rw [hD, List.map_replicate])), ?_⟩
    rw [all_id_rep]
    exact q _ r
def spProductOver (K : PySem.W.Frag) : Sp := fun vs H Q _ => ∃ sg v p, vs = [tx sg, v] ∧ Lets sg ∧ PdOk sg p ∧ p.length ≤ 1000 ∧ Dp K H v (M23.dP p) ∧ ∀ H', Same H H' → Q (.bl true) H'
theorem ok_is_product_over (T : All K mg) : FnOk P w K mg base CX0 5 T.f_is_product_over T.d_is_product_over ["letters", "value"] (spProductOver K) := by
  refine T.is_product_over.F.ok sc_is_product_over (fun vs H Q E h => ?_) (fun cdv A outer s H vs Q E hr h => ?_)
  · obtain ⟨sg, v, p, rfl, _⟩ := h
    rfl
  · obtain ⟨sg, v, p, rfl, hl, hp, hz, hd, q⟩ := h
    refine ⟨_, pss_one (ps_ret (pe_and (pe_call (ok_is_product T) (hr.mono (by decide)) (by rfl) T.is_product.g T.is_product.F.kp T.is_product.b .nil pass0 (pa_cons (pv 1) pa_nil))
        (pe_one (pe_callB (cr_all rfl) (by rfl) T.b_all PyProof.Rows.boot_all (pa_cons (pe_lc2 (own := [("piece", 2), ("letter", 3)]) (vs1 := [3]) (g := gName 2) (g1 := gName 3) (tt := tYes) (tt1 := tYes) rfl sc_is_product_over.nd (pi_tup (pv 1))
          (blkOk_by (own := [("piece", 2), ("letter", 3)]) (N := ["letters", "value", "piece", "letter"]) (sc := defScope s_is_product_over) (by decide +kernel)) (by decide)
          (fun _ _ _ _ _ => (pg_name (i := 2) sc_is_product_over.nd rfl (by first | exact Or.inl rfl | exact Or.inr rfl))) (fun _ _ _ _ _ => pts_nil)
          (fun _ _ _ _ _ => (pi_str (pe_call (ok_letters_in T) (hr.mono (by decide)) (by rfl) T.letters_in.g T.letters_in.F.kp T.letters_in.b .nil pass0 (pa_cons (pv 2) pa_nil)))) (fun _ _ _ _ _ => (pg_name (i := 3) sc_is_product_over.nd rfl (by first | exact Or.inl rfl | exact Or.inr rfl))) (fun _ _ _ _ _ => pts_nil)
          (fun _ _ _ _ _ => (pe_cmpR op_in_sign (pv 3) (pv 0) (by rfl)))) pa_nil))))), ?_⟩
    refine ⟨_, rfl, sg, v, p, rfl, hl, hp, hz, hd, fun H1 s1 => ⟨true, rfl, ite_t rfl ?_⟩⟩
    obtain ⟨a, rfl, hs⟩ := dp_pd (Dp.same s1 hd)
    refine ⟨_, rfl, a, rfl, ⟨_, hs⟩, fun D nD => ?_⟩
    refine lc2_it (walk_tup (xs := p.map tx)) (fun j H' => Same H1 H' ∧ ∃ m, m ≤ 4 * j ∧ H' D = some (.lst (List.replicate m (.bl true)))) ⟨same_upd nD, 0, Nat.le_refl _, upd_same⟩ (fun j H' _ x => sqT_same hs x.1) (fun j x H3 H4 hj r3 y => ?_) (fun H3 r3 => ?_)
    · obtain ⟨rfl, y⟩ := y
      obtain ⟨s3, m, hm, hD⟩ := r3
      rw [List.getElem?_map] at y
      obtain ⟨u, hu, rfl⟩ := Option.map_eq_some_iff.mp y
      have hux := hp u (List.mem_of_getElem? hu)
      have hul := hux.len hl
      have hlt := hux.lts hl
      have hll : (M23.lt u).length ≤ 4 := by
        have := (hux.up hl).2.2
        split at this <;> omega
      rw [List.length_map] at hj
      refine ⟨rfl, yes_tk ?_⟩
      refine ⟨_, rfl, u, rfl, by omega, tS (M23.lt u), rfl, ?_⟩
      refine lc2_in walk_tx (fun k H' => Same H1 H' ∧ ∃ m, m ≤ 4 * j + k ∧ H' D = some (.lst (List.replicate m (.bl true)))) ⟨s3, m, by omega, hD⟩ (fun _ _ _ _ => trivial) (fun k x H5 H6 hk r5 y2 => ?_) (fun H5 r5 => ?_)
      · obtain ⟨rfl, ch, hch, rfl⟩ := y2
        obtain ⟨s5, m5, hm5, hD5⟩ := r5
        refine ⟨rfl, yes_te ⟨_, rfl, _, rfl, ch, _, rfl, rfl, _, hD5, by rw [List.length_replicate]; exact Nat.lt_of_lt_of_le (by omega : m5 < 100000) (sz (Nat.le_refl _)), same_up s5 nD, m5 + 1, by omega, ?_⟩⟩
        rw [upd_same, decide_eq_true (hlt ch (List.mem_of_getElem? hch)), ← List.replicate_succ']
      · obtain ⟨s5, m5, hm5, hD5⟩ := r5
        exact ⟨s5, m5, by omega, hD5⟩
    · obtain ⟨s3, m, hm, hD⟩ := r3
      refine ⟨D, List.replicate _ true, rfl, .inl (.inl (by rw [hD, List.map_replicate])), ?_⟩
      rw [all_id_rep]
      exact q _ (s1.trans s3)
def spHolds : Sp := fun vs H Q _ => ∃ y x, vs = [tx y, tx x] ∧ y.length ≤ 10 ∧ x.length ≤ 10 ∧ ∀ H', Same H H' → Q (.bl (M23.holds y x)) H'
theorem ok_holds (T : All K mg) : FnOk P w K mg base CX0 3 T.f_holds T.d_holds ["piece", "other"] spHolds := by
  refine T.holds.F.ok sc_holds (fun vs H Q E h => ?_) (fun cdv A outer s H vs Q E hr h => ?_)
  · obtain ⟨y, x, rfl, _⟩ := h
    rfl
  · obtain ⟨y, x, rfl, hy, hx, q⟩ := h
    refine ⟨_, pss_cons (ps_if (pt_val (pe_call (ok_is_star T) (hr.mono (by decide)) (by rfl) T.is_star.g T.is_star.F.kp T.is_star.b .nil pass0 (pa_cons (pv 0) pa_nil))) (pss_one (ps_ret (pe_callB (cr_all rfl) (by rfl) T.b_all PyProof.Rows.boot_all (pa_cons (pe_lc (own := [("letter", 2)]) (g := gName 2) (tt := tYes) rfl sc_holds.nd (pi_str (pe_call (ok_letters_in T) (hr.mono (by decide)) (by rfl) T.letters_in.g T.letters_in.F.kp T.letters_in.b .nil pass0 (pa_cons (pv 1) pa_nil)))
          (blkOk_by (own := [("letter", 2)]) (N := ["piece", "other", "letter"]) (sc := defScope s_holds) (by decide +kernel))
          (fun _ _ _ _ _ => pg_name (i := 2) sc_holds.nd rfl (by first | exact Or.inl rfl | exact Or.inr rfl)) (fun _ _ _ _ _ => pts_nil)
          (fun _ _ _ _ _ => (pe_cmpR op_in_sign (pv 2) (pe_call (ok_letters_in T) (hr.mono (by decide)) (by rfl) T.letters_in.g T.letters_in.F.kp T.letters_in.b .nil pass0 (pa_cons (pv 0) pa_nil)) (by rfl)))) pa_nil)))) pss_nil)
      (pss_one (ps_ret (pe_cmpR op_eq (pv 0) (pv 1) (by rfl)))), ?_⟩
    have hlx : (M23.lt x).length ≤ 10 := Nat.le_trans (lt_len x) hx
    have hly : (M23.lt y).length ≤ 10 := Nat.le_trans (lt_len y) hy
    refine ⟨_, rfl, y, rfl, by omega, M23.isS y, rfl, ite2 (fun e => ?_) (fun e => ?_)⟩
    · refine ⟨_, rfl, x, rfl, by omega, tS (M23.lt x), rfl, fun D nD => ?_⟩
      refine lc_gen walk_tx (Same H) (fun i acc => acc = ((M23.lt x).take i).map fun c => V.bl (decide (c ∈ M23.lt y))) (sz (by omega)) (fun i acc e => by rw [e]; simp; omega) rfl (same_upd nD) (fun _ _ h => same_up h nD) (fun _ _ => trivial) (fun i u H2 H3 acc C N hi r hD ha yy c n => ?_) (fun H2 xs r hD ha => ?_)
      · obtain ⟨rfl, ch, hc, rfl⟩ := yy
        refine ⟨rfl, yes_te ⟨_, rfl, _, rfl, y, rfl, by omega, ch, _, rfl, rfl, c _ _ r hD ?_⟩⟩
        rw [ha, List.take_add_one, hc, List.map_append]
        rfl
      subst ha
      rw [List.take_length] at hD
      refine ⟨D, (M23.lt x).map fun c => decide (c ∈ M23.lt y), rfl, .inl (.inl (by rw [hD, List.map_map]; rfl)), ?_⟩
      have ee : ((M23.lt x).map fun c => decide (c ∈ M23.lt y)).all id = M23.holds y x := by
        unfold M23.holds
        rw [if_pos e, List.all_map]
        rfl
      rw [ee]
      exact q _ r
    · dsimp only [tNext]
      refine ⟨_, rfl, _, rfl, rfl, ?_⟩
      have ee : decide (tx y = tx x) = M23.holds y x := by
        unfold M23.holds
        rw [if_neg e]
        exact decide_eq_decide.mpr ⟨tx_inj, congrArg tx⟩
      rw [ee]
      exact q _ (Same.refl _)
def spBehind (K : PySem.W.Frag) : Sp := fun vs H Q _ => ∃ v p i x, vs = [v, .int (i : Nat), tx x] ∧ Dp K H v (M23.dP p) ∧ i ≤ p.length ∧ p.length ≤ 1000 ∧ (∀ y ∈ p, y.length ≤ 10) ∧ x.length ≤ 10 ∧ ∀ H', Same H H' → Q (.int (M23.enc (M23.pb p i x))) H'
theorem ok_place_behind (T : All K mg) : FnOk P w K mg base CX0 4 T.f_place_behind T.d_place_behind ["product", "place", "piece"] (spBehind K) := by
  refine T.place_behind.F.ok sc_place_behind (fun vs H Q E h => ?_) (fun cdv A outer s H vs Q E hr h => ?_)
  · obtain ⟨v, p, i, x, rfl, _⟩ := h
    rfl
  · obtain ⟨v, p, i, x, rfl, hd, hi, hz, hyl, hx, q⟩ := h
    obtain ⟨t1, hLOST⟩ := T.c_LOST
    obtain ⟨a, rfl, hs⟩ := dp_pd hd
    refine ⟨_, pss_cons (ps_for PassesOwn.never rfl (pi_range2 rfl T.b_range (pa_cons (pv 1) (pa_cons (pe_callB call_len_seq (by rfl) T.b_len PySem.boot_len (pa_cons (pv 0) pa_nil)) pa_nil))) (pg_name (i := 3) sc_place_behind.nd rfl (by first | exact Or.inl rfl | exact Or.inr rfl))
        (pss_one (ps_if (pt_val (pe_call (ok_holds T) (hr.mono (by decide)) (by rfl) T.holds.g T.holds.F.kp T.holds.b .nil pass0 (pa_cons (pe_ix ix_tup (pv 0) (pv 3) (fun _ _ => rfl)) (pa_cons (pv 2) pa_nil)))) (pss_one (ps_ret (pe_ifExp (pt_val (pe_call (ok_is_star T) (hr.mono (by decide)) (by rfl) T.is_star.g T.is_star.F.kp T.is_star.b .nil pass0 (pa_cons (pe_ix ix_tup (pv 0) (pv 3) (fun _ _ => rfl)) pa_nil))) (pv 3) (pe_op op_add (pv 3) pe_int)))) pss_nil)))
      (pss_one (ps_ret (pe_glob (v := .int (-1)) rfl hLOST ⟨_, rfl⟩))), ?_⟩
    dsimp only [cxOf]
    have hlp : (p.map tx).length = p.length := List.length_map ..
    refine ⟨_, rfl, _, rfl, a, _, rfl, .inr hs, _, _, rfl, ⟨by omega, by omega, by omega, by omega⟩, ?_⟩
    refine for_it walk_range (fun k σ H' => ∃ g, σ = [some (.ref a), some (.int (i : Nat)), some (tx x), g] ∧ Same H H' ∧ ∀ j y, i ≤ j → j < i + k → p[j]? = some y → M23.holds y x = false) ⟨none, rfl, Same.refl _, fun j y h1 h2 _ => by omega⟩ (fun _ _ _ _ _ => trivial) (fun k v σ Ha Hb hk pp yy => ?_) (fun σ Hc pp => ?_)
    · obtain ⟨g, rfl, sa, hno⟩ := pp
      obtain ⟨rfl, rfl⟩ := yy
      have hkp : i + k < p.length := by omega
      have ek : ((i : Int) + (k : Int)) = ((i + k : Nat) : Int) := by omega
      have hy := List.getElem?_eq_getElem hkp
      have hat : ∀ y, p[i + k]? = some y → atI (p.map tx) ((i : Int) + (k : Int)) = some (tx y) := fun y e => by
        rw [ek]
        exact atI_nat (by rw [List.getElem?_map, e]; rfl)
      generalize p[i + k] = y at hy
      have hylen := hyl y (List.mem_of_getElem? hy)
      have hsa := sqT_same hs sa
      refine ⟨_, rfl, _, rfl, a, _, _, tx y, rfl, rfl, hsa, hat y hy, _, rfl, y, x, rfl, hylen, hx, fun H2 s2 => ⟨_, rfl, ite2 (fun e => ?_) (fun e => ?_)⟩⟩
      · have hsb := sqT_same hs (sa.trans s2)
        have fin := M23.pb_found hy e (i + k - i) i rfl (by omega) hno
        refine ⟨_, rfl, _, rfl, a, _, _, tx y, rfl, rfl, hsb, hat y hy, y, rfl, by omega, _, rfl, ite2 (fun e2 => ?_) (fun e2 => ?_)⟩
        · rw [fin, if_pos e2] at q
          refine ⟨_, rfl, ?_⟩
          show Q (.int ((i : Int) + (k : Int))) H2
          rw [ek]
          exact q _ (sa.trans s2)
        · rw [fin, if_neg e2] at q
          refine ⟨_, rfl, _, _, rfl, rfl, ?_⟩
          show Q (.int ((i : Int) + (k : Int) + 1)) H2
          rw [ek]
          exact q _ (sa.trans s2)
      · dsimp only [tNext]
        refine ⟨_, rfl, sa.trans s2, fun j y' h1 h2 h3 => ?_⟩
        by_cases hj : j = i + k
        · subst hj
          rw [hy] at h3
          cases h3
          exact Bool.eq_false_iff.mpr e
        · exact hno j y' h1 (by omega) h3
    · obtain ⟨g, rfl, sa, hno⟩ := pp
      have fin := M23.pb_none (x := x) (q := p) (p.length - i) i rfl fun j y h1 h2 => by
        have := (List.getElem?_eq_some_iff.mp h2).1
        exact hno j y h1 (by omega) h2
      rw [fin] at q
      exact q _ sa
end
end Lw
namespace Lw
open PySem PySem.Spec PyProof.Rows L3
open L2 hiding del del_same del_ne
section
variable {P : Program} {w : World} {K : PySem.W.Frag} {mg : Str → Option Value} {base : Heap}
def runO (p : M23.Pd) (o : Option Nat) (q : M23.Pd) : Option Nat := o.bind fun i => M23.runI p i q
theorem runO_snoc (p : M23.Pd) (o : Option Nat) (q : M23.Pd) (x : M23.Pc) : runO p o (q ++ [x]) = (runO p o q).bind fun i => M23.pb p i x := by
  unfold runO
  cases o with
  | none => rfl
  | some i =>
    show M23.runI p i (q ++ [x]) = (M23.runI p i q).bind _
    rw [M23.runI_append]
    cases M23.runI p i q with
    | none => rfl
    | some k =>
      show (M23.pb p k x).bind _ = M23.pb p k x
      cases M23.pb p k x <;> rfl
theorem runO_le {p : M23.Pd} {o : Option Nat} {q : M23.Pd} {k : Nat} (h : ∀ i, o = some i → i ≤ p.length) (e : runO p o q = some k) : k ≤ p.length := by
  unfold runO at e
  cases o with
  | none => cases e
  | some i => exact M23.runI_le (h i rfl) e
def spPlaceBy (K : PySem.W.Frag) : Sp := fun vs H Q _ => ∃ v u p o q, vs = [v, .int (M23.enc o), u] ∧ Dp K H v (M23.dP p) ∧ (∀ i, o = some i → i ≤ p.length) ∧ p.length ≤ 1000 ∧ (∀ y ∈ p, y.length ≤ 10) ∧ q.length ≤ 2000 ∧ (∀ y ∈ q, y.length ≤ 10) ∧ Dp K H u (M23.dP q) ∧ ∀ H', Same H H' → Q (.int (M23.enc (runO p o q))) H'
theorem ok_place_byP (T : All K mg) : FnOk P w K mg base CX0 5 T.f_place_by T.d_place_by ["product", "place", "pieces"] (spPlaceBy K) := by
  refine T.place_by.F.ok sc_place_by (fun vs H Q E h => ?_) (fun cdv A outer s H vs Q E hr h => ?_)
  · obtain ⟨v, u, p, o, q, rfl, _⟩ := h
    rfl
  · obtain ⟨v, u, p, o, q, rfl, hd, ho, hz, hyl, hqz, hql, hu, k⟩ := h
    obtain ⟨t1, hLOST⟩ := T.c_LOST
    obtain ⟨a, rfl, hs⟩ := dp_pd hd
    obtain ⟨b, rfl, hb⟩ := dp_pd hu
    refine ⟨_, pss_cons (ps_for PassesOwn.never rfl (pi_tup (pv 2)) (pg_name (i := 3) sc_place_by.nd rfl (by first | exact Or.inl rfl | exact Or.inr rfl))
        (pss_one (ps_if (pt_cmpR op_ne (pv 1) (pe_glob (v := .int (-1)) rfl hLOST ⟨_, rfl⟩) (nomark _)) (pss_one (ps_set (i := 1) sc_place_by.nd rfl (by first | exact Or.inl rfl | exact Or.inr rfl) (pe_call (ok_place_behind T) (hr.mono (by decide)) (by rfl) T.place_behind.g T.place_behind.F.kp T.place_behind.b .nil pass0 (pa_cons (pv 0) (pa_cons (pv 1) (pa_cons (pv 3) pa_nil)))))) pss_nil)))
      (pss_one (ps_ret (pv 1))), ?_⟩
    dsimp only [cxOf]
    refine ⟨_, rfl, b, rfl, ⟨_, hb⟩, ?_⟩
    refine for_it (walk_tup (xs := q.map tx)) (fun i σ H' => ∃ g, σ = [some (.ref a), some (.int (M23.enc (runO p o (q.take i)))), some (.ref b), g] ∧ Same H H') ⟨none, by cases o <;> rfl, Same.refl _⟩ (fun i σ H' _ pp => by obtain ⟨_, _, e⟩ := pp; exact sqT_same hb e) (fun i v σ Ha Hb hi pp yy => ?_) (fun σ Hc pp => ?_)
    · obtain ⟨g, rfl, sa⟩ := pp
      obtain ⟨rfl, hv⟩ := yy
      rw [List.getElem?_map] at hv
      obtain ⟨x, hx, rfl⟩ := Option.map_eq_some_iff.mp hv
      have tk : q.take (i + 1) = q.take i ++ [x] := by rw [List.take_add_one, hx]; rfl
      have le := fun k (e : runO p o (q.take i) = some k) => runO_le ho e
      have sn := runO_snoc p o (q.take i) x
      rw [← tk] at sn
      generalize runO p o (q.take i) = z at *
      cases z with
      | none =>
        refine ⟨_, rfl, rfl, _, rfl, ?_⟩
        refine ite_f (by decide) ?_
        dsimp only [tNext]
        rw [sn]
        exact ⟨_, rfl, sa⟩
      | some j =>
        have hne : (!decide (V.int (M23.enc (some j)) = V.int (-1))) = true := by
          rw [Bool.not_eq_true', decide_eq_false_iff_not]
          intro e
          have := M23.enc_lost.mp (V.int.inj e)
          cases this
        refine ⟨_, rfl, rfl, _, rfl, ite_t hne ?_⟩
        refine ⟨_, rfl, _, rfl, _, rfl, .ref a, p, j, x, rfl, Dp.same sa hd, le j rfl, hz, hyl, hql x (List.mem_of_getElem? hx), fun H2 s2 => ?_⟩
        dsimp only [gName]
        rw [sn]
        exact ⟨_, rfl, sa.trans s2⟩
    · obtain ⟨g, rfl, sa⟩ := pp
      rw [List.length_map, List.take_length]
      exact ⟨_, rfl, k _ sa⟩
def spPlaceByT (K : PySem.W.Frag) : Sp := fun vs H Q _ => ∃ v t p o, vs = [v, .int (M23.enc o), tx t] ∧ Dp K H v (M23.dP p) ∧ (∀ i, o = some i → i ≤ p.length) ∧ p.length ≤ 1000 ∧ (∀ y ∈ p, y.length ≤ 10) ∧ t.length ≤ 2000 ∧ ∀ H', Same H H' → Q (.int (M23.enc (runO p o (M23.tP t)))) H'
theorem ok_place_byT (T : All K mg) : FnOk P w K mg base CX0 5 T.f_place_by T.d_place_by ["product", "place", "pieces"] (spPlaceByT K) := by
  refine T.place_by.F.ok sc_place_by (fun vs H Q E h => ?_) (fun cdv A outer s H vs Q E hr h => ?_)
  · obtain ⟨v, t, p, o, rfl, _⟩ := h
    rfl
  · obtain ⟨v, t, p, o, rfl, hd, ho, hz, hyl, hqz, k⟩ := h
    obtain ⟨t1, hLOST⟩ := T.c_LOST
    obtain ⟨a, rfl, hs⟩ := dp_pd hd
    refine ⟨_, pss_cons (ps_for PassesOwn.never rfl (pi_str (pv 2)) (pg_name (i := 3) sc_place_by.nd rfl (by first | exact Or.inl rfl | exact Or.inr rfl))
        (pss_one (ps_if (pt_cmpR op_ne (pv 1) (pe_glob (v := .int (-1)) rfl hLOST ⟨_, rfl⟩) (nomark _)) (pss_one (ps_set (i := 1) sc_place_by.nd rfl (by first | exact Or.inl rfl | exact Or.inr rfl) (pe_call (ok_place_behind T) (hr.mono (by decide)) (by rfl) T.place_behind.g T.place_behind.F.kp T.place_behind.b .nil pass0 (pa_cons (pv 0) (pa_cons (pv 1) (pa_cons (pv 3) pa_nil)))))) pss_nil)))
      (pss_one (ps_ret (pv 1))), ?_⟩
    refine ⟨_, rfl, tS t, rfl, ?_⟩
    refine for_it walk_tx (fun i σ H' => ∃ g, σ = [some (.ref a), some (.int (M23.enc (runO p o ((M23.tP t).take i)))), some (tx t), g] ∧ Same H H') ⟨none, by cases o <;> rfl, Same.refl _⟩ (fun _ _ _ _ _ => trivial) (fun i v σ Ha Hb hi pp yy => ?_) (fun σ Hc pp => ?_)
    · obtain ⟨g, rfl, sa⟩ := pp
      obtain ⟨rfl, c, hc, rfl⟩ := yy
      have tk : (M23.tP t).take (i + 1) = (M23.tP t).take i ++ [[c]] := by
        rw [List.take_add_one]
        unfold M23.tP
        rw [List.getElem?_map, hc]
        rfl
      have le := fun k (e : runO p o ((M23.tP t).take i) = some k) => runO_le ho e
      have sn := runO_snoc p o ((M23.tP t).take i) [c]
      rw [← tk] at sn
      generalize runO p o ((M23.tP t).take i) = z at *
      cases z with
      | none =>
        refine ⟨_, rfl, rfl, _, rfl, ?_⟩
        refine ite_f (by decide) ?_
        dsimp only [tNext]
        rw [sn]
        exact ⟨_, rfl, sa⟩
      | some j =>
        have hne : (!decide (V.int (M23.enc (some j)) = V.int (-1))) = true := by
          rw [Bool.not_eq_true', decide_eq_false_iff_not]
          intro e
          have := M23.enc_lost.mp (V.int.inj e)
          cases this
        refine ⟨_, rfl, rfl, _, rfl, ite_t hne ?_⟩
        refine ⟨_, rfl, _, rfl, _, rfl, .ref a, p, j, [c], rfl, Dp.same sa hd, le j rfl, hz, hyl, by simp, fun H2 s2 => ?_⟩
        dsimp only [gName]
        rw [sn]
        exact ⟨_, rfl, sa.trans s2⟩
    · obtain ⟨g, rfl, sa⟩ := pp
      have e : (M23.tP t).take t.length = M23.tP t := List.take_of_length_le (by unfold M23.tP; rw [List.length_map]; exact Nat.le_refl _)
      rw [e]
      exact ⟨_, rfl, k _ sa⟩
theorem enc_ne (o : Option Nat) : (!decide (V.int (M23.enc o) = V.int (-1))) = o.isSome := by
  cases o with
  | none => rfl
  | some j =>
    show _ = true
    rw [Bool.not_eq_true', decide_eq_false_iff_not]
    intro e
    have := M23.enc_lost.mp (V.int.inj e)
    cases this
def spHasText (K : PySem.W.Frag) : Sp := fun vs H Q _ => ∃ v t p, vs = [v, tx t] ∧ Dp K H v (M23.dP p) ∧ p.length ≤ 1000 ∧ (∀ y ∈ p, y.length ≤ 10) ∧ t.length ≤ 2000 ∧ ∀ H', Same H H' → Q (.bl (M23.runI p 0 (M23.tP t)).isSome) H'
theorem ok_has_text (T : All K mg) : FnOk P w K mg base CX0 6 T.f_has_text T.d_has_text ["product", "text"] (spHasText K) := by
  refine T.has_text.F.ok sc_has_text (fun vs H Q E h => ?_) (fun cdv A outer s H vs Q E hr h => ?_)
  · obtain ⟨v, t, p, rfl, _⟩ := h
    rfl
  · obtain ⟨v, t, p, rfl, hd, hz, hyl, ht, q⟩ := h
    obtain ⟨t1, hLOST⟩ := T.c_LOST
    refine ⟨_, pss_one (ps_ret (pe_cmpR op_ne (pe_call (ok_place_byT T) (hr.mono (by decide)) (by rfl) T.place_by.g T.place_by.F.kp T.place_by.b .nil pass0 (pa_cons (pv 0) (pa_cons pe_int (pa_cons (pv 1) pa_nil)))) (pe_glob (v := .int (-1)) rfl hLOST ⟨_, rfl⟩) (by rfl))), ?_⟩
    refine ⟨_, rfl, _, rfl, v, t, p, some 0, rfl, hd, fun i e => by cases e; exact Nat.zero_le _, hz, hyl, ht, fun H1 s1 => ⟨rfl, ?_⟩⟩
    have e := enc_ne (runO p (some 0) (M23.tP t))
    dsimp only
    rw [e]
    exact q _ s1
def spLies (K : PySem.W.Frag) : Sp := fun vs H Q _ => ∃ v u p q, vs = [v, u] ∧ Dp K H v (M23.dP p) ∧ Dp K H u (M23.dP q) ∧ p.length ≤ 1000 ∧ q.length ≤ 1000 ∧ (∀ y ∈ p, y.length ≤ 10) ∧ (∀ y ∈ q, y.length ≤ 10) ∧ ∀ H', Same H H' → Q (.bl (M23.runI q 0 p).isSome) H'
theorem ok_lies_within (T : All K mg) : FnOk P w K mg base CX0 6 T.f_lies_within T.d_lies_within ["one", "other"] (spLies K) := by
  refine T.lies_within.F.ok sc_lies_within (fun vs H Q E h => ?_) (fun cdv A outer s H vs Q E hr h => ?_)
  · obtain ⟨v, u, p, q, rfl, _⟩ := h
    rfl
  · obtain ⟨v, u, p, q, rfl, hd, hu, hz, hz2, hyl, hyl2, k⟩ := h
    obtain ⟨t1, hLOST⟩ := T.c_LOST
    refine ⟨_, pss_one (ps_ret (pe_cmpR op_ne (pe_call (ok_place_byP T) (hr.mono (by decide)) (by rfl) T.place_by.g T.place_by.F.kp T.place_by.b .nil pass0 (pa_cons (pv 1) (pa_cons pe_int (pa_cons (pv 0) pa_nil)))) (pe_glob (v := .int (-1)) rfl hLOST ⟨_, rfl⟩) (by rfl))), ?_⟩
    refine ⟨_, rfl, _, rfl, u, v, q, some 0, p, rfl, hu, fun i e => by cases e; exact Nat.zero_le _, hz2, hyl2, by omega, hyl, hd, fun H1 s1 => ⟨rfl, ?_⟩⟩
    have e := enc_ne (runO q (some 0) p)
    dsimp only
    rw [e]
    exact k _ s1
end
end Lw
namespace Lw
open PySem PySem.Spec PyProof.Rows L3
open L2 hiding del del_same del_ne
/-- a while, what is known behind it told apart -/
theorem while_fin {c : TT} {tb : TS} {D : Ends} {σ : L2.St} {H : Hp} (W : Nat → L2.St → Hp → Prop) (Fin : L2.St → Hp → Prop) (h0 : ∃ m, W m σ H)
    (hs : ∀ m σ H, W m σ H → ∀ Kc : Bool → Hp → Prop, (∀ H1, tb { D with nx := fun σ' H' => ∃ m', m' < m ∧ W m' σ' H', ct := fun σ' H' => ∃ m', m' < m ∧ W m' σ' H', bk := D.nx } σ H1 → Kc true H1) → (∀ H1, Fin σ H1 → Kc false H1) → c σ H Kc)
    (hf : ∀ σ H, Fin σ H → D.nx σ H) : tWhile c tb D σ H := by
  refine ⟨W, h0, fun m σ H w => hs m σ H w _ (fun H1 h => ?_) (fun H1 h => ?_)⟩
  · exact iteT ⟨fun σ' H' => ∃ m', m' < m ∧ W m' σ' H', fun σ' H' p => p, h⟩
  · exact iteF (hf _ _ h)
/-- letters that can be told -/
def TxOk (x : List Nat) : Prop := (∀ c ∈ x, c < 1114112) ∧ x.length ≤ 10
theorem PcOk.tx {sg x : List Nat} (hl : Lets sg) (h : PcOk sg x) : TxOk x := by
  refine ⟨?_, Nat.le_trans (h.len hl) (by decide)⟩
  rcases h with ⟨c, hc, rfl⟩ | ⟨l, h1, h2, h3, rfl⟩
  · intro d hd
    rw [List.mem_singleton.mp hd]
    have := (hl.az c hc).2
    omega
  · intro d hd
    rcases List.mem_append.mp hd with hd | hd
    · have := (hl.az d (h3 d hd)).2; omega
    · rw [List.mem_singleton.mp hd]; decide
theorem wt_txs {l : List (List Nat)} {n : Nat} (h : ∀ x ∈ l, TxOk x) (hn : l.length ≤ n) : Wt (.list (dTx l)) (11 * n) 1 := by
  refine Wt.list (w := 10) (k := 0) (fun d hd => ?_) (by unfold dTx; rw [List.length_map]; exact hn)
  obtain ⟨t, ht, rfl⟩ := List.mem_map.mp hd
  exact Wt.text (h t ht).1 (h t ht).2
theorem eq_nil (l : List (List Nat)) : PyData.eqv (.list (dTx l)) (.list []) = l.isEmpty := by cases l <;> rfl
theorem rev_last (y : List Nat) (g : List (List Nat)) : (y :: g).reverse.map tx = g.reverse.map tx ++ [tx y] := by rw [List.reverse_cons, List.map_append]; rfl
section
variable {P : Program} {w : World} {K : PySem.W.Frag} {mg : Str → Option Value} {base : Heap}
def spReduced (K : PySem.W.Frag) : Sp := fun vs H Q _ => ∃ v p, vs = [v] ∧ Dp K H v (M23.dP p) ∧ p.length ≤ 100 ∧ (∀ y ∈ p, TxOk y) ∧ ∀ H' a, Same H H' → H a = none → H' a = some (.tup ((M23.redOf p).map tx)) → Q (.ref a) H'
theorem ok_reduced_of (T : All K mg) : FnOk P w K mg base CX0 4 T.f_reduced_of T.d_reduced_of ["product"] (spReduced K) := by
  refine T.reduced_of.F.ok sc_reduced_of (fun vs H Q E h => ?_) (fun cdv A outer s H vs Q E hr h => ?_)
  · obtain ⟨v, p, rfl, _⟩ := h
    rfl
  · obtain ⟨v, p, rfl, hd, hz, hyl, k⟩ := h
    obtain ⟨a, rfl, hs⟩ := dp_pd hd
    refine ⟨_, pss_cons (ps_set (i := 1) sc_reduced_of.nd rfl (by first | exact Or.inl rfl | exact Or.inr rfl) (pe_lst pa_nil))
      (pss_cons (ps_for PassesOwn.never rfl (pi_tup (pv 0)) (pg_name (i := 2) sc_reduced_of.nd rfl (by first | exact Or.inl rfl | exact Or.inr rfl))
        (pss_cons (ps_while PassesOwn.never (PW.pt (pw_and (pt_cmpR (op_neD (u64 hr)) (pv 1) (pe_lst pa_nil) (nomark _)) (pw_and (pt_val (pe_call (ok_is_star T) (hr.mono (by decide)) (by rfl) T.is_star.g T.is_star.F.kp T.is_star.b .nil pass0 (pa_cons (pv 2) pa_nil))) (pw_and1 (pt_val (pe_call (ok_holds T) (hr.mono (by decide)) (by rfl) T.holds.g T.holds.F.kp T.holds.b .nil pass0 (pa_cons (pv 2) (pa_cons (pe_ix ix_list (pv 1) (pe_un un_neg pe_int) (fun _ _ => rfl)) pa_nil))))))))
        (pss_one (ps_expr (pe_bm0 PySem.F.plainAttrs_list PySem.F.slot_list_pop PySem.F.type_list_pop mt_pop (pv 1)))))
      (pss_one (ps_if (PW.pt (pw_or (pt_cmpR (op_eqD (u64 hr)) (pv 1) (pe_lst pa_nil) (nomark _)) (pw_or (pt_not (pt_val (pe_call (ok_is_star T) (hr.mono (by decide)) (by rfl) T.is_star.g T.is_star.F.kp T.is_star.b .nil pass0 (pa_cons (pe_ix ix_list (pv 1) (pe_un un_neg pe_int) (fun _ _ => rfl)) pa_nil)))) (pw_or1 (pt_not (pt_val (pe_call (ok_holds T) (hr.mono (by decide)) (by rfl) T.holds.g T.holds.F.kp T.holds.b .nil pass0 (pa_cons (pe_ix ix_list (pv 1) (pe_un un_neg pe_int) (fun _ _ => rfl)) (pa_cons (pv 2) pa_nil))))))))) (pss_one (ps_expr (pe_bm PySem.F.plainAttrs_list PySem.F.slot_list_append PySem.F.type_list_append mt_append (pv 1) (pa_cons (pv 2) pa_nil)))) pss_nil))))
      (pss_one (ps_ret (pe_callTy call_tuple_of (by rfl) T.b_tuple (show bootBuiltins "tuple" = some (.type "tuple") by decide +kernel) (pa_cons (pv 1) pa_nil))))), ?_⟩
    dsimp only [cxOf]
    refine ⟨by show 0 ≤ sizeLine; decide, fun F nF => ?_⟩
    have sF := same_upd (o := .lst []) nF
    dsimp only [gName]
    refine ⟨_, rfl, a, rfl, ⟨_, sqT_same hs sF⟩, ?_⟩
    refine for_it (walk_tup (xs := p.map tx)) (fun i σ H' => ∃ g, σ = [some (.ref a), some (.ref F), g] ∧ Same H H' ∧ H' F = some (.lst (((p.take i).foldl M23.push []).reverse.map tx))) ⟨none, rfl, sF, upd_same⟩ (fun i σ H' _ pp => by obtain ⟨_, _, e, _⟩ := pp; exact sqT_same hs e) (fun i v σ Ha Hb hi pp yy => ?_) (fun σ Hc pp => ?_)
    · obtain ⟨g, rfl, sa, hF⟩ := pp
      obtain ⟨rfl, hv⟩ := yy
      rw [List.getElem?_map] at hv
      obtain ⟨x, hx, rfl⟩ := Option.map_eq_some_iff.mp hv
      have tk : (p.take (i + 1)).foldl M23.push [] = M23.push ((p.take i).foldl M23.push []) x := by rw [List.take_add_one, hx, List.foldl_append]; rfl
      have hxk := hyl x (List.mem_of_getElem? hx)
      have hfm : ∀ y ∈ (p.take i).foldl M23.push [], TxOk y := fun y hy => (M23.fold_mem hy).elim (fun z => hyl y (List.mem_of_mem_take z)) fun z => by cases z
      have hfl : ((p.take i).foldl M23.push []).length ≤ 100 := by
        have := M23.fold_len (p.take i) []
        rw [List.length_take, List.length_nil] at this
        omega
      rw [tk]
      generalize (p.take i).foldl M23.push [] = f at *
      refine while_fin (fun m σ H' => ∃ f', m = f'.length ∧ σ = [some (.ref a), some (.ref F), some (tx x)] ∧ Same H H' ∧ H' F = some (.lst (f'.reverse.map tx)) ∧ M23.pops x f' = M23.pops x f ∧ (∀ y ∈ f', TxOk y) ∧ f'.length ≤ 100)
        (fun σ H' => ∃ f', σ = [some (.ref a), some (.ref F), some (tx x)] ∧ Same H H' ∧ H' F = some (.lst (f'.reverse.map tx)) ∧ M23.pops x f = f' ∧ (∀ y ∈ f', TxOk y) ∧ f'.length ≤ 100) ⟨_, f, rfl, rfl, sa, hF, rfl, hfm, hfl⟩ (fun m σ H1 hw Kc kt kf => ?_) (fun σ H1 hw => ?_)
      · obtain ⟨f', rfl, rfl, s1, hF1, hpop, hm1, hl1⟩ := hw
        refine ⟨_, rfl, by show 0 ≤ sizeLine; decide, fun E0' nE => ?_⟩
        have s2 := s1.trans (same_upd (o := .lst []) nE)
        have hF2 := same_upd (o := .lst []) nE _ _ hF1
        have hE2 := upd_same (H := H1) (a := E0') (o := .lst [])
        generalize upd H1 E0' (.lst []) = H2 at *
        refine ⟨.list (dTx f'.reverse), .list [], .lst (xs := f'.reverse.map tx) (.inl (.inl hF2)) (dp_txs _), .lst (.inl (.inl hE2)) .nil, (wt_txs (n := 100) (fun y hy => hm1 y (List.mem_reverse.mp hy)) (by rw [List.length_reverse]; exact hl1)).shaped (by decide), rfl, ?_⟩
        rw [eq_nil]
        cases f' with
        | nil => exact ⟨_, rfl, ite_f rfl (kf _ ⟨[], rfl, s2, hF2, hpop.symm, hm1, hl1⟩)⟩
        | cons y g' =>
          refine ⟨_, rfl, ite_t (by simp) ?_⟩
          have hyx := hm1 y List.mem_cons_self
          refine ⟨_, rfl, x, rfl, by have := hxk.2; omega, _, rfl, ite2 (fun e => ?_) (fun e => ?_)⟩
          · refine ⟨_, rfl, _, rfl, 1, rfl, F, _, _, tx y, rfl, rfl, .inl (.inl hF2), by rw [rev_last]; exact atI_last _ _, x, y, rfl, hxk.2, hyx.2, fun H3 s3 => ⟨_, rfl, ?_⟩⟩
            have s13 := s2.trans s3
            have hF3 := s3 _ _ hF2
            cases hh : M23.holds x y with
            | true =>
              refine kt _ ?_
              refine ⟨_, rfl, .inl ⟨rfl, _, .inl (.inl hF3)⟩, F, _, tx y, rfl, rfl, hF3, ?_, ?_⟩
              · rw [rev_last]; simp
              · refine ⟨g'.length, by simp, g', rfl, rfl, same_up s13 nF, ?_, ?_, fun z hz => hm1 z (List.mem_cons_of_mem _ hz), ?_⟩
                · rw [upd_same, rev_last, List.dropLast_concat]
                · rw [← hpop]
                  conv => rhs; unfold M23.pops
                  rw [e, hh]
                  rfl
                · have : (y :: g').length ≤ 100 := hl1
                  simp at this
                  omega
            | false =>
              refine kf _ ⟨y :: g', rfl, s13, hF3, ?_, hm1, hl1⟩
              rw [← hpop]
              unfold M23.pops
              rw [hh, Bool.and_false, if_neg (by decide)]
          · refine kf _ ⟨y :: g', rfl, s2, hF2, ?_, hm1, hl1⟩
            rw [← hpop]
            unfold M23.pops
            rw [Bool.eq_false_iff.mpr e, Bool.false_and, if_neg (by decide)]
      · obtain ⟨f', rfl, s1, hF1, hpop, hm1, hl1⟩ := hw
        have hpush : M23.push f x = match f' with | [] => [x] | y :: g => if M23.isS y && M23.holds y x then y :: g else x :: y :: g := by unfold M23.push; rw [hpop] <;> cases f' <;> rfl
        refine ⟨_, rfl, by show 0 ≤ sizeLine; decide, fun E0' nE => ?_⟩
        have s2 := s1.trans (same_upd (o := .lst []) nE)
        have hF2 := same_upd (o := .lst []) nE _ _ hF1
        have hE2 := upd_same (H := H1) (a := E0') (o := .lst [])
        generalize upd H1 E0' (.lst []) = H2 at *
        refine ⟨.list (dTx f'.reverse), .list [], .lst (xs := f'.reverse.map tx) (.inl (.inl hF2)) (dp_txs _), .lst (.inl (.inl hE2)) .nil, (wt_txs (n := 100) (fun y hy => hm1 y (List.mem_reverse.mp hy)) (by rw [List.length_reverse]; exact hl1)).shaped (by decide), rfl, ?_⟩
        rw [eq_nil]
        have hb : ∀ H3 : Hp, (f'.reverse.map tx).length < sizeLine := fun _ => by
          rw [List.length_map, List.length_reverse]; exact Nat.lt_of_le_of_lt hl1 (Nat.lt_of_lt_of_le (by decide : 100 < 1000) (sz (by decide)))
        have hrv : (x :: f').reverse.map tx = f'.reverse.map tx ++ [tx x] := rev_last x f'
        cases f' with
        | nil =>
          refine ⟨_, rfl, ite_t rfl ⟨_, rfl, .inl ⟨rfl, _, .inl (.inl hF2)⟩, _, rfl, F, _, _, rfl, rfl, hF2, hb H2, _, rfl, same_up s2 nF, ?_⟩⟩
          rw [upd_same, hpush]
          rfl
        | cons y g' =>
          refine ⟨_, rfl, ite_f (by simp) ?_⟩
          have hyx := hm1 y List.mem_cons_self
          refine ⟨_, rfl, 1, rfl, F, _, _, tx y, rfl, rfl, .inl (.inl hF2), by rw [rev_last]; exact atI_last _ _, y, rfl, by have := hyx.2; omega, _, rfl, ?_⟩
          cases e : M23.isS y with
          | false =>
            refine ite_t (by rfl) ⟨_, rfl, .inl ⟨rfl, _, .inl (.inl hF2)⟩, _, rfl, F, _, _, rfl, rfl, hF2, hb H2, _, rfl, same_up s2 nF, ?_⟩
            rw [upd_same, hpush]
            dsimp only
            rw [e, Bool.false_and, if_neg (by decide), rev_last x]
          | true =>
            refine ite_f (by decide) ?_
            refine ⟨_, rfl, 1, rfl, F, _, _, tx y, rfl, rfl, .inl (.inl hF2), by rw [rev_last]; exact atI_last _ _, _, rfl, y, x, rfl, hyx.2, hxk.2, fun H3 s3 => ⟨_, rfl, ?_⟩⟩
            have s13 := s2.trans s3
            have hF3 := s3 _ _ hF2
            cases hh : M23.holds y x with
            | false =>
              refine ite_t (by rfl) ⟨_, rfl, .inl ⟨rfl, _, .inl (.inl hF3)⟩, _, rfl, F, _, _, rfl, rfl, hF3, hb H3, _, rfl, same_up s13 nF, ?_⟩
              rw [upd_same, hpush]
              dsimp only
              rw [hh, Bool.and_false, if_neg (by decide), rev_last x]
            | true =>
              refine ite_f (by decide) ⟨_, rfl, s13, ?_⟩
              rw [hF3, hpush]
              dsimp only
              rw [hh, e, Bool.and_true, if_pos rfl]
    · obtain ⟨g, rfl, sa, hF⟩ := pp
      rw [List.length_map, List.take_length] at hF
      refine ⟨_, rfl, F, _, rfl, .inl ⟨.inl (.inl hF), fun l nl => ?_⟩⟩
      have sl := same_upd (o := .tup ((((p.foldl M23.push []).reverse)).map tx)) nl
      exact k _ l (sa.trans sl) (sa.free nl) upd_same
end
end Lw
namespace Lw
open PySem PySem.Spec PyProof.Rows L3
open L2 hiding del del_same del_ne
theorem cr_anyK {X : Cx} {K : PySem.W.Frag} (h : X.K = K) (hc : X.calm = true) : CallR X (.builtin "any") (rAny K) := h ▸ cr_any hc
abbrev AP := Addr × M23.Pd
def rfs (bs : List AP) : List V := bs.map fun b => .ref b.1
def dd (es : List AP) (x : AP) : List AP := if x.2 ∈ es.map Prod.snd then es else es ++ [x]
def ddl (L : List AP) : List AP := L.foldl dd []
def encT (x : AP) : EntN := (M23.dP x.2, x.1, .bl true)
theorem keyNs_inj : ∀ {a b : List Str}, keyNs (a.map .str) = keyNs (b.map .str) → a = b
  | [], [], _ => rfl
  | [], _ :: _, h => by rw [List.map_nil, List.map_cons, keyNs, keyNs] at h; cases h
  | _ :: _, [], h => by rw [List.map_nil, List.map_cons, keyNs, keyNs] at h; cases h
  | x :: a, y :: b, h => by
    rw [List.map_cons, List.map_cons, keyNs, keyNs, keyN, keyN] at h
    injection h with h1 h2
    injection h1 with h1
    rw [h1, keyNs_inj h2]
theorem keyP_inj {p q : M23.Pd} (h : keyN (M23.dP p) = keyN (M23.dP q)) : p = q := by
  unfold M23.dP dS at h
  rw [keyN, keyN] at h
  injection h with h
  exact M23.sS_inj (keyNs_inj h)
theorem valP (v : V) (p : M23.Pd) : ∀ es : List AP, (valN (es.map fun x => (M23.dP x.2, x.1, v)) (keyN (M23.dP p))).isSome = decide (p ∈ es.map Prod.snd)
  | [] => rfl
  | x :: es => by
    have ih := valP v p es
    unfold valN at ih ⊢
    rw [List.map_cons, List.find?_cons, List.map_cons]
    by_cases e : x.2 = p
    · subst e
      rw [decide_eq_true rfl]
      simp
    · have n : ¬ keyN (M23.dP x.2) = keyN (M23.dP p) := fun z => e (keyP_inj z)
      rw [decide_eq_false (show ¬ keyN (M23.dP x.2, x.1, v).1 = keyN (M23.dP p) from n)]
      show _ = decide (p ∈ x.2 :: es.map Prod.snd)
      rw [show decide (p ∈ x.2 :: es.map Prod.snd) = decide (p ∈ es.map Prod.snd) from decide_eq_decide.mpr ⟨fun z => (List.mem_cons.mp z).elim (fun z => absurd z.symm e) id, List.mem_cons_of_mem _⟩]
      exact ih
theorem storeE_T (es : List AP) (x : AP) : L3.storeE (es.map encT) (encT x) = (dd es x).map encT := by
  have hv := valP (.bl true) x.2 es
  unfold L3.storeE dd
  show (if (valN (es.map encT) (keyN (M23.dP x.2))).isSome = true then _ else _) = _
  rw [show (valN (es.map encT) (keyN (M23.dP x.2))).isSome = decide (x.2 ∈ es.map Prod.snd) from hv]
  by_cases h : x.2 ∈ es.map Prod.snd
  · rw [if_pos (decide_eq_true h), if_pos h, List.map_map]
    refine List.map_congr_left fun y _ => ?_
    show (if keyN (M23.dP y.2) = keyN (M23.dP x.2) then (M23.dP y.2, y.1, V.bl true) else (M23.dP y.2, y.1, V.bl true)) = encT y
    split <;> rfl
  · rw [if_neg (by rw [decide_eq_false h]; decide), if_neg h, List.map_append]
    rfl
theorem storeAll_T : ∀ (L es : List AP), L3.storeAll (es.map encT) (L.map encT) = (L.foldl dd es).map encT
  | [], _ => rfl
  | x :: L, es => by
    show L3.storeAll (L3.storeE (es.map encT) (encT x)) (L.map encT) = _
    rw [storeE_T]
    exact storeAll_T L (dd es x)
theorem ddl_nodup : ∀ (L es : List AP), (es.map Prod.snd).Nodup → ((L.foldl dd es).map Prod.snd).Nodup
  | [], _, h => h
  | x :: L, es, h => ddl_nodup L _ (by
      unfold dd
      split
      · exact h
      · rename_i n
        rw [List.map_append]
        exact List.nodup_append.mpr ⟨h, by simp, fun a ha b hb => by
          rw [List.map_cons, List.map_nil, List.mem_singleton] at hb
          rw [hb]
          exact fun z => n (z ▸ ha)⟩)
theorem ddl_sub : ∀ (L es : List AP) (y : AP), y ∈ L.foldl dd es → y ∈ es ∨ y ∈ L
  | [], _, _, h => .inl h
  | x :: L, es, y, h => by
    rcases ddl_sub L _ y h with h | h
    · unfold dd at h
      split at h
      · exact .inl h
      · exact (List.mem_append.mp h).imp id fun z => by rw [List.mem_singleton.mp z]; exact List.mem_cons_self
    · exact .inr (List.mem_cons_of_mem _ h)
theorem ddl_mem : ∀ (L es : List AP) (p : M23.Pd), p ∈ (L.foldl dd es).map Prod.snd ↔ p ∈ es.map Prod.snd ∨ p ∈ L.map Prod.snd
  | [], _, _ => by simp
  | x :: L, es, p => by
    rw [show (x :: L).foldl dd es = L.foldl dd (dd es x) from rfl, ddl_mem L, List.map_cons, List.mem_cons]
    have : p ∈ (dd es x).map Prod.snd ↔ p ∈ es.map Prod.snd ∨ p = x.2 := by
      unfold dd
      split
      · rename_i h
        exact ⟨.inl, fun z => z.elim id fun e => e ▸ h⟩
      · rw [List.map_append, List.mem_append, List.map_cons, List.map_nil, List.mem_singleton]
    rw [this, or_assoc]
theorem ddl_len : ∀ (L es : List AP), (L.foldl dd es).length ≤ es.length + L.length
  | [], _ => Nat.le_refl _
  | x :: L, es => by
    have h := ddl_len L (dd es x)
    have : (dd es x).length ≤ es.length + 1 := by unfold dd; split <;> simp
    show (L.foldl dd (dd es x)).length ≤ _
    rw [List.length_cons]
    omega
theorem eqv_dP (p q : M23.Pd) : PyData.eqv (M23.dP p) (M23.dP q) = decide (p = q) := by
  have h := eqv_map (fun t : List Nat => PyData.str (tS t)) (fun a b => by
    show (tS a == tS b) = _
    by_cases e : a = b
    · subst e; simp
    · rw [decide_eq_false e]
      exact beq_eq_false_iff_ne.mpr fun z => e (tS_inj z)) p q
  have e : ∀ p : M23.Pd, M23.dP p = .tuple (p.map fun t => PyData.str (tS t)) := fun p => by unfold M23.dP dS M23.sS; rw [List.map_map]; rfl
  rw [e, e, PyData.eqv]
  exact h
theorem wt_dP {p : M23.Pd} {n : Nat} (h : ∀ x ∈ p, TxOk x) (hn : p.length ≤ n) : Wt (M23.dP p) (11 * n) 1 := by
  unfold M23.dP dS M23.sS
  rw [List.map_map]
  refine Wt.tuple (w := 10) (k := 0) (fun d hd => ?_) (by rw [List.length_map]; exact hn)
  obtain ⟨t, ht, rfl⟩ := List.mem_map.mp hd
  exact Wt.text (h t ht).1 (h t ht).2
def srtP (L : List AP) : List AP := L.mergeSort fun a b => M23.ple a.2 b.2
def txs (x : AP) : Addr × List Str := (x.1, M23.sS x.2)
theorem srt_txs (L : List AP) : srtS (L.map txs) = (srtP L).map txs := by
  unfold srtS srtP
  exact (List.map_mergeSort (f := txs) (r := fun a b : AP => M23.ple a.2 b.2) (s := PySem.W.dataLe false fun p : Addr × List Str => dS p.2) (l := L) (fun a _ b _ => rfl)).symm
theorem srtP_perm (L : List AP) : (srtP L).Perm L := List.mergeSort_perm _ _
theorem srtP_sorted (L : List AP) : (srtP L).Pairwise fun a b => M23.ple a.2 b.2 = true :=
  List.pairwise_mergeSort (le := fun a b : AP => M23.ple a.2 b.2) (fun a b c => M23.ple_trans a.2 b.2 c.2) (fun a b => M23.ple_total a.2 b.2) L
theorem srtP_canon (L : List AP) : (srtP (ddl L)).map Prod.snd = M23.canon (L.map Prod.snd) := by
  refine M23.canon_uniq ?_ ?_ fun x => ?_
  · exact ((srtP_perm _).map Prod.snd).nodup_iff.mpr (ddl_nodup L [] (by simp))
  · rw [List.pairwise_map]; exact srtP_sorted _
  · rw [((srtP_perm _).map Prod.snd).mem_iff]
    unfold ddl
    rw [ddl_mem]
    simp
theorem filter_kept (cs : List AP) (S : List M23.Pd) (h : cs.map Prod.snd = M23.canon S) : (cs.filter fun c => !(cs.any fun d => !decide (c.2 = d.2) && (M23.runI d.2 0 c.2).isSome)).map Prod.snd = M23.maxs S := by
  have e : (fun c : AP => !(cs.any fun d => !decide (c.2 = d.2) && (M23.runI d.2 0 c.2).isSome)) = (fun p => decide (∀ q ∈ M23.canon S, q ≠ p → M23.run q p = none)) ∘ Prod.snd := by
    funext c
    rw [Bool.eq_iff_iff]
    show _ ↔ decide _ = true
    rw [decide_eq_true_iff, ← h, Bool.not_eq_true', List.any_eq_false]
    constructor
    · intro z q hq hn
      obtain ⟨d, hd, rfl⟩ := List.mem_map.mp hq
      have := z d hd
      rw [Bool.and_eq_true, Bool.not_eq_true', decide_eq_false_iff_not] at this
      cases hr : M23.run d.2 c.2 with
      | none => rfl
      | some r => exact absurd ⟨fun e => hn e.symm, M23.runI_some.mpr (M23.run_emb.mp (by rw [hr]; rfl))⟩ this
    · intro z d hd
      rw [Bool.and_eq_true, Bool.not_eq_true', decide_eq_false_iff_not]
      rintro ⟨h1, h2⟩
      have h3 := z d.2 (List.mem_map_of_mem hd) fun e => h1 e.symm
      have h4 := M23.run_emb.mpr (M23.runI_some.mp h2)
      rw [h3] at h4
      cases h4
  unfold M23.maxs
  rw [e, ← List.filter_map, h]
section
variable {P : Program} {w : World} {K : PySem.W.Frag} {mg : Str → Option Value} {base : Heap}
/-- products as they lie: their addresses -/
def Prods (K : PySem.W.Frag) (H : Hp) (bs : List (Addr × M23.Pd)) : Prop := ∀ b ∈ bs, SqT K H b.1 (b.2.map tx)
theorem pd_dp {H : Hp} {a : Addr} {p : M23.Pd} (h : SqT K H a (p.map tx)) : Dp K H (.ref a) (M23.dP p) := by
  unfold M23.dP dS M23.sS
  rw [List.map_map]
  exact .tup h (dp_txs p)
/-- pairs of a product and True, as they lie -/
def PT (H : Hp) : List Addr → List AP → Prop := Paired fun t x => H t = some (.tup [.ref x.1, .bl true]) ∧ H x.1 = some (.tup (x.2.map tx))
theorem PT.same {H H' : Hp} {ts : List Addr} {L : List AP} (h : PT H ts L) (s : Same H H') : PT H' ts L := Paired.mapP h fun _ _ z => ⟨s _ _ z.1, s _ _ z.2⟩
theorem up_tup {H : Hp} {D a : Addr} {xs ys : List V} {o : HO} (hD : H D = some (.lst ys)) (h : H a = some (.tup xs)) : upd H D o a = some (.tup xs) := by
  rw [upd_ne (ne_of h hD fun z => by cases z)]
  exact h
theorem PT.up {H : Hp} {D : Addr} {ys : List V} {o : HO} {ts : List Addr} {L : List AP} (h : PT H ts L) (hD : H D = some (.lst ys)) : PT (upd H D o) ts L := Paired.mapP h fun _ _ z => ⟨up_tup hD z.1, up_tup hD z.2⟩
theorem Paired.snocP {α β : Type} {F : α → β → Prop} : ∀ {l : List α} {m : List β} {a : α} {b : β}, Paired F l m → F a b → Paired F (l ++ [a]) (m ++ [b])
  | _, _, _, _, .nil, h => .cons h .nil
  | _, _, _, _, .cons r t, h => .cons r (Paired.snocP t h)
theorem pt_pairs {H : Hp} {ts : List Addr} {L : List AP} (h : PT H ts L) : Paired (fun (t : Addr) (p : EntN) => SqT K H t [V.ref p.2.1, p.2.2]) ts (L.map encT) := by
  unfold PT at h
  induction h with
  | nil => exact .nil
  | cons h _ ih => exact .cons (.inl (.inl h.1)) ih
theorem keyables_strs : ∀ l : List Str, keyables (l.map .str) = true
  | [] => rfl
  | x :: l => by rw [List.map_cons, keyables, keyables_strs l]; rfl
theorem keyable_dP (p : M23.Pd) : keyable (M23.dP p) = true := by
  unfold M23.dP dS
  rw [keyable]
  exact keyables_strs _
theorem depth_strs : ∀ l : List Str, NestedKey.depthAll (keyNs (l.map .str)) = 0
  | [] => rfl
  | x :: l => by rw [List.map_cons, keyNs, NestedKey.depthAll, depth_strs l]; rfl
theorem depth_dP (p : M23.Pd) : (keyN (M23.dP p)).depth ≤ 8 := by
  unfold M23.dP dS
  rw [keyN, NestedKey.depth, depth_strs]
  decide
def spKeptOf (K : PySem.W.Frag) : Sp := fun vs H Q _ => ∃ (l : Addr) (bs : List (Addr × M23.Pd)), vs = [.ref l] ∧ (SqL K H l (rfs bs) ∨ SqT K H l (rfs bs)) ∧ Prods K H bs ∧ bs.length ≤ 20 ∧ (∀ b ∈ bs, b.2.length ≤ 100) ∧ (∀ b ∈ bs, ∀ y ∈ b.2, TxOk y) ∧
  ∀ H' p (cs : List (Addr × M23.Pd)), Same H H' → H p = none → H' p = some (.lst (rfs cs)) → Prods K H' cs → cs.map Prod.snd = M23.kept (bs.map Prod.snd) → Q (.ref p) H'
theorem ok_kept_of (T : All K mg) : FnOk P w K mg base CX0 7 T.f_kept_of T.d_kept_of ["products"] (spKeptOf K) := by
  refine T.kept_of.F.ok sc_kept_of (fun vs H Q E h => ?_) (fun cdv A outer s H vs Q E hr h => ?_)
  · obtain ⟨l, bs, rfl, _⟩ := h
    rfl
  · obtain ⟨l, bs, rfl, hl, hp, hz, hz2, hy, k⟩ := h
    refine ⟨_, pss_cons (ps_set (i := 1) sc_kept_of.nd rfl (by first | exact Or.inl rfl | exact Or.inr rfl) (pe_callB (cr_sortTD rfl (u64 hr)) (by rfl) T.b_sorted PyProof.Rows.boot_sorted (pa_cons (pe_callTy (cr_dictN rfl (u64 hr)) (by rfl) T.b_dict (show bootBuiltins "dict" = some (.type "dict") by decide +kernel) (pa_cons (pe_lc (own := [("product", 2)]) (g := gName 2) (tt := tYes) rfl sc_kept_of.nd (pi_sq (pv 0))
          (blkOk_by (own := [("product", 2)]) (N := ["products", "some", "product", "one", "other"]) (sc := defScope s_kept_of) (by decide +kernel))
          (fun _ _ _ _ _ => pg_name (i := 2) sc_kept_of.nd rfl (by first | exact Or.inl rfl | exact Or.inr rfl)) (fun _ _ _ _ _ => pts_nil)
          (fun _ _ _ _ _ => (pe_tup (pa_cons (pe_call (ok_reduced_of T) (hr.mono (by decide)) (by rfl) T.reduced_of.g T.reduced_of.F.kp T.reduced_of.b .nil pass0 (pa_cons (pv 2) pa_nil)) (pa_cons pe_bl pa_nil))))) pa_nil)) pa_nil)))
      (pss_one (ps_ret (pe_lc (own := [("one", 3)]) (g := gName 3) rfl sc_kept_of.nd (pi_list (pv 1))
          (blkOk_by (own := [("one", 3)]) (N := ["products", "some", "product", "one", "other"]) (sc := defScope s_kept_of) (by decide +kernel))
          (fun _ _ _ _ _ => pg_name (i := 3) sc_kept_of.nd rfl (by first | exact Or.inl rfl | exact Or.inr rfl)) (fun _ _ _ _ _ => (pts_one (pt_not (pt_val (pe_callB (cr_anyK (K := K) rfl rfl) (by rfl) T.b_any PyProof.Rows.boot_any (pa_cons (pe_lc (own := [("other", 4)]) (g := gName 4) (tt := tYes) rfl sc_kept_of.nd (pi_listK (K := K) rfl (pv 1))
          (blkOk_by (own := [("other", 4)]) (N := ["products", "some", "product", "one", "other"]) (by first | kernel_rfl | rfl))
          (fun _ _ _ _ _ => pg_name (i := 4) sc_kept_of.nd rfl (by first | exact Or.inl rfl | exact Or.inr rfl)) (fun _ _ _ _ _ => pts_nil)
          (fun _ _ _ _ _ => (pe_and (pe_cmpR (op_neDK (K := K) rfl (u64 hr)) (pv 3) (pv 4) (by rfl))
        (pe_one (pe_call (ok_lies_within T) (hr.mono (by decide)) (by rfl) T.lies_within.g T.lies_within.F.kp T.lies_within.b .nil pass0 (pa_cons (pv 3) (pa_cons (pv 4) pa_nil))))))) pa_nil))))))
          (fun _ _ _ _ _ => (pv 3))))), ?_⟩
    dsimp only [cxOf]
    have hS : Sq K H (.ref l) (rfs bs) := ⟨l, rfl, hl⟩
    have hbl : (rfs bs).length = bs.length := List.length_map _
    refine ⟨_, rfl, rfs bs, H, hS, Same.refl H, fun J G wk hG D nD => ?_⟩
    refine lc_it wk (fun i H' => Same H H' ∧ ∃ ts L, H' D = some (.lst (ts.map V.ref)) ∧ ts.length = i ∧ L.map Prod.snd = (bs.take i).map (fun b => M23.redOf b.2) ∧ PT H' ts L) ⟨same_upd nD, [], [], upd_same, rfl, rfl, .nil⟩ (fun i H' _ pp => hG H' pp.1) (fun i x H1 H2 hi pp yy => ?_) (fun H1 pp => ?_)
    · obtain ⟨s1, ts, L, hD, hts, hL, hP⟩ := pp
      obtain ⟨rfl, yy⟩ := yy
      rw [show (rfs bs)[i]? = (bs[i]?).map fun b => V.ref b.1 from List.getElem?_map] at yy
      obtain ⟨b, hb, rfl⟩ := Option.map_eq_some_iff.mp yy
      have hbm := List.mem_of_getElem? hb
      refine ⟨rfl, yes_te ?_⟩
      refine ⟨_, rfl, .ref b.1, b.2, rfl, pd_dp (sqT_same (hp b hbm) s1), hz2 b hbm, hy b hbm, fun H3 a s3 na ha => ⟨by show 2 ≤ sizeLine; decide, fun t nt => ?_⟩⟩
      have hD3 := s3 _ _ hD
      have st := same_upd (o := .tup [.ref a, .bl true]) nt
      have hDt := st _ _ hD3
      refine ⟨_, hDt, ?_, same_up ((s1.trans s3).trans st) nD, ts ++ [t], L ++ [(a, M23.redOf b.2)], ?_, ?_, ?_, ?_⟩
      · rw [List.length_map, hts]; exact Nat.lt_of_lt_of_le (by omega : i < 100) (sz (by decide))
      · rw [upd_same, List.map_append]; rfl
      · rw [List.length_append, hts]; rfl
      · rw [List.map_append, hL, List.take_add_one, hb, List.map_append]; rfl
      · refine PT.up (Paired.snocP (hP.same (s3.trans st)) ⟨upd_same, st _ _ ha⟩) hDt
    · obtain ⟨s1, ts, L, hD, hts, hL, hP⟩ := pp
      rw [hbl, ← hbl, hbl, List.take_length] at hL
      have hLl : L.length = bs.length := by have := congrArg List.length hL; simpa using this
      have hLm : L.map Prod.snd = (bs.map Prod.snd).map M23.redOf := by rw [hL, List.map_map]; rfl
      have hLz : ∀ x ∈ L, x.2.length ≤ 100 ∧ ∀ y ∈ x.2, TxOk y := fun x hx => by
        have : x.2 ∈ bs.map (fun b => M23.redOf b.2) := hL ▸ List.mem_map_of_mem hx
        obtain ⟨b, hb, e⟩ := List.mem_map.mp this
        rw [← e]
        exact ⟨Nat.le_trans (M23.redOf_len b.2) (hz2 b hb), fun y hm => hy b hb y (M23.redOf_mem hm)⟩
      have hLp : ∀ x ∈ L, H1 x.1 = some (.tup (x.2.map tx)) := by
        unfold PT at hP
        clear hL hLl hLm hLz hts hD
        induction hP with
        | nil => intro x hx; cases hx
        | cons h t ih =>
          intro x hx
          rcases List.mem_cons.mp hx with rfl | hx
          · exact h.2
          · exact ih x hx
      refine ⟨D, ts, L.map encT, rfl, .inl (.inl hD), ?_, ?_, fun dA ndA => ?_⟩
      · exact pt_pairs hP
      · exact fun x hx => by
          obtain ⟨y, hy', rfl⟩ := List.mem_map.mp hx
          exact ⟨pd_dp (.inl (.inl (hLp y hy'))), keyable_dP y.2, depth_dP y.2⟩
      · rw [show L3.storeAll [] (L.map encT) = (ddl L).map encT from storeAll_T L []]
        have s2 := same_upd (o := TN P w dA ((ddl L).map encT)) ndA
        have hds : ∀ x ∈ ddl L, x ∈ L := fun x hx => (ddl_sub L [] x hx).elim (fun z => by cases z) id
        refine ⟨dA, (ddl L).map encT, (ddl L).map txs, rfl, upd_same, ?_, ?_, fun sA nsA => ?_⟩
        · rw [List.map_map, List.map_map]; rfl
        · exact fun x hx => by
            obtain ⟨y, hy', rfl⟩ := List.mem_map.mp hx
            exact pd_dp (.inl (.inl (s2 _ _ (hLp y (hds y hy')))))
        · rw [srt_txs, List.map_map]
          have hS2 : ((fun p : Addr × List Str => V.ref p.1) ∘ txs) = fun b : AP => V.ref b.1 := rfl
          rw [hS2]
          have s3 := s2.trans (same_upd (o := .lst (rfs (srtP (ddl L)))) nsA)
          have hcan : (srtP (ddl L)).map Prod.snd = M23.canon ((bs.map Prod.snd).map M23.redOf) := by rw [srtP_canon, hLm]
          have hcm : ∀ x ∈ srtP (ddl L), x ∈ L := fun x hx => hds x ((srtP_perm _).mem_iff.mp hx)
          have hcl : (srtP (ddl L)).length ≤ 20 := by
            rw [(srtP_perm _).length_eq]
            have := ddl_len L []
            unfold ddl
            rw [List.length_nil] at this
            omega
          have hA : upd (upd H1 dA (TN P w dA (List.map encT (ddl L)))) sA (.lst (rfs (srtP (ddl L)))) sA = some (.lst (rfs (srtP (ddl L)))) := upd_same
          have hcp : ∀ x ∈ srtP (ddl L), upd (upd H1 dA (TN P w dA (List.map encT (ddl L)))) sA (.lst (rfs (srtP (ddl L)))) x.1 = some (.tup (x.2.map tx)) := fun x hx => s3 _ _ (hLp x (hcm x hx))
          have hcz : ∀ x ∈ srtP (ddl L), x.2.length ≤ 100 ∧ ∀ y ∈ x.2, TxOk y := fun x hx => hLz x (hcm x hx)
          have k2 : ∀ H', Same (upd (upd H1 dA (TN P w dA (List.map encT (ddl L)))) sA (.lst (rfs (srtP (ddl L))))) H' → ∀ p cs, H p = none → H' p = some (.lst (rfs cs)) → (∀ x ∈ cs, x ∈ srtP (ddl L)) → cs.map Prod.snd = M23.kept (bs.map Prod.snd) → Q (.ref p) H' := fun H' s4 p cs np hp' hsub e =>
            k H' p cs ((s1.trans s3).trans s4) np hp' (fun x hx => .inl (.inl (s4 _ _ (hcp x (hsub x hx))))) e
          have np2 : ∀ p, upd (upd H1 dA (TN P w dA (List.map encT (ddl L)))) sA (.lst (rfs (srtP (ddl L)))) p = none → H p = none := fun p hp' => (s1.trans s3).free hp'
          show gName 1 (.ref sA) _ (upd (upd H1 dA (TN P w dA (List.map encT (ddl L)))) sA (.lst (rfs (srtP (ddl L))))) _
          generalize upd (upd H1 dA (TN P w dA (List.map encT (ddl L)))) sA (.lst (rfs (srtP (ddl L)))) = HA at *
          generalize srtP (ddl L) = cs at *
          clear hds hLz hLp hP hLm hLl hL hts hD
          have hcs : (rfs cs).length = cs.length := List.length_map _
          refine ⟨_, rfl, sA, rfl, ⟨_, .inl (.inl hA)⟩, fun D2 nD2 => ?_⟩
          refine lc_gen (walk_list (xs := rfs cs)) (Same HA) (fun i acc => acc = rfs ((cs.take i).filter fun c => !(cs.any fun d => !decide (c.2 = d.2) && (M23.runI d.2 0 c.2).isSome))) (sz (by rw [hcs]; omega)) (fun i acc e => ?_) rfl (same_upd nD2) (fun _ _ h => same_up h nD2) (fun _ h => .inl (.inl (h _ _ hA))) (fun i x H2 H3 acc C N hi r hD ha y c n => ?_) (fun H2 xs r hD ha => ?_)
          · rw [e]
            show (List.map _ _).length ≤ i
            rw [List.length_map]
            exact Nat.le_trans (List.length_filter_le _ _) (by rw [List.length_take]; omega)
          · obtain ⟨rfl, yy⟩ := y
            rw [show (rfs cs)[i]? = (cs[i]?).map fun b => V.ref b.1 from List.getElem?_map] at yy
            obtain ⟨b, hb, rfl⟩ := Option.map_eq_some_iff.mp yy
            have hbm := List.mem_of_getElem? hb
            refine ⟨rfl, ?_⟩
            have hfil : (cs.take (i + 1)).filter (fun c => !(cs.any fun d => !decide (c.2 = d.2) && (M23.runI d.2 0 c.2).isSome)) = (cs.take i).filter (fun c => !(cs.any fun d => !decide (c.2 = d.2) && (M23.runI d.2 0 c.2).isSome)) ++ if (!(cs.any fun d => !decide (b.2 = d.2) && (M23.runI d.2 0 b.2).isSome)) = true then [b] else [] := by
              rw [List.take_add_one, hb, List.filter_append]
              show _ ++ List.filter _ [b] = _
              rw [List.filter_cons]
              rfl
            rw [hfil] at c n
            refine ⟨_, rfl, sA, rfl, ⟨_, .inl (.inl (r _ _ hA))⟩, fun D3 nD3 => ?_⟩
            refine lc_gen (walk_list (xs := rfs cs)) (Same H3) (fun j acc2 => acc2 = (cs.take j).map fun d => V.bl (!decide (b.2 = d.2) && (M23.runI d.2 0 b.2).isSome)) (sz (by rw [hcs]; omega)) (fun i acc e => by rw [e, List.length_map, List.length_take]; omega) rfl (same_upd nD3) (fun _ _ h => same_up h nD3) (fun _ h => .inl (.inl (h _ _ (r _ _ hA)))) (fun j x H4 H5 acc2 C2 N2 hj r4 hD4 ha2 y2 c2 n2 => ?_) (fun H4 xs r4 hD4 ha2 => ?_)
            · obtain ⟨rfl, yy2⟩ := y2
              rw [show (rfs cs)[j]? = (cs[j]?).map fun b => V.ref b.1 from List.getElem?_map] at yy2
              obtain ⟨d, hd, rfl⟩ := Option.map_eq_some_iff.mp yy2
              have hdm := List.mem_of_getElem? hd
              have r5 := r.trans r4
              have db : Dp K H5 (.ref b.1) (M23.dP b.2) := pd_dp (.inl (.inl (r5 _ _ (hcp b hbm))))
              have de : Dp K H5 (.ref d.1) (M23.dP d.2) := pd_dp (.inl (.inl (r5 _ _ (hcp d hdm))))
              have zb := hcz b hbm
              have zd := hcz d hdm
              refine ⟨rfl, yes_te ?_⟩
              refine ⟨_, rfl, _, rfl, _, _, db, de, (wt_dP zb.2 zb.1).shaped (by decide), (wt_dP zd.2 zd.1).shaped (by decide), ?_⟩
              rw [eqv_dP]
              refine ⟨_, rfl, ite2 (fun e => ?_) (fun e => ?_)⟩
              · refine ⟨_, rfl, _, rfl, _, _, _, _, rfl, db, de, by omega, by omega, fun y hy' => (zb.2 y hy').2, fun y hy' => (zd.2 y hy').2, fun H6 s6 => c2 _ _ (r4.trans s6) (s6 _ _ hD4) ?_⟩
                rw [ha2, List.take_add_one, hd, List.map_append]
                show _ ++ [_] = _ ++ [V.bl (!decide (b.2 = d.2) && (M23.runI d.2 0 b.2).isSome)]
                rw [e, Bool.true_and]
              · refine c2 _ _ r4 hD4 ?_
                rw [ha2, List.take_add_one, hd, List.map_append]
                show _ ++ [_] = _ ++ [V.bl (!decide (b.2 = d.2) && (M23.runI d.2 0 b.2).isSome)]
                rw [Bool.eq_false_iff.mpr e, Bool.false_and]
            · subst ha2
              rw [hcs, List.take_length] at hD4
              refine ⟨D3, cs.map fun d => !decide (b.2 = d.2) && (M23.runI d.2 0 b.2).isSome, rfl, .inl (.inl (by rw [hD4, List.map_map]; rfl)), ?_⟩
              rw [List.any_map]
              refine ⟨_, rfl, ?_⟩
              cases hany : cs.any (id ∘ fun d => !decide (b.2 = d.2) && (M23.runI d.2 0 b.2).isSome) with
              | true =>
                have hany' : (cs.any fun d => !decide (b.2 = d.2) && (M23.runI d.2 0 b.2).isSome) = true := hany
                rw [hany', if_neg (by decide), List.append_nil] at n
                exact ite_f (by decide) (n _ (r.trans r4) (r4 _ _ hD) ha)
              | false =>
                have hany' : (cs.any fun d => !decide (b.2 = d.2) && (M23.runI d.2 0 b.2).isSome) = false := hany
                rw [hany', if_pos (by decide)] at c
                refine ite_t (by decide) ⟨_, rfl, c _ _ (r.trans r4) (r4 _ _ hD) ?_⟩
                rw [ha]
                unfold rfs
                rw [List.map_append]
                rfl
          · subst ha
            rw [hcs, List.take_length] at hD
            exact k2 H2 r D2 _ (np2 _ nD2) hD (fun x hx => (List.mem_filter.mp hx).1) (filter_kept cs _ hcan)
end
end Lw
namespace Lw
open PySem PySem.Spec PyProof.Rows L3
open L2 hiding del del_same del_ne
theorem putF_len (f : Str) (v : V) : ∀ fs : List (Str × V), (putF f v fs).length ≤ fs.length + 1
  | [] => Nat.le_refl _
  | (g, x) :: fs => by
    unfold putF
    split
    · exact Nat.le_succ _
    · rw [List.length_cons, List.length_cons]
      exact Nat.succ_le_succ (putF_len f v fs)
theorem putF_lt {f : Str} {v : V} {fs : List (Str × V)} {n : Nat} (h : fs.length ≤ n) (hn : n + 1 < 1000) : (putF f v fs).length < 1000 := Nat.lt_of_le_of_lt (Nat.le_trans (putF_len f v fs) (Nat.succ_le_succ h)) hn
/-- products as a tuple, as a list -/
def dPT (kp : List M23.Pd) : PyData := .tuple (kp.map M23.dP)
def dPL (kp : List M23.Pd) : PyData := .list (kp.map M23.dP)
/-- a sum at a -/
structure SumO (C : Addr) (K : PySem.W.Frag) (H : Hp) (a : Addr) (sg : List Nat) (kp : List M23.Pd) : Prop where
  at_ : ∃ dx t, H a = some (.ins C dx [("own_letters", tx sg), ("own_products", .ref t)]) ∧ Dp K H (.ref t) (dPT kp)
theorem SumO.same {C : Addr} {K : PySem.W.Frag} {H H' : Hp} {a : Addr} {sg : List Nat} {kp : List M23.Pd} (h : SumO C K H a sg kp) (s : Same H H') : SumO C K H' a sg kp := by
  obtain ⟨⟨dx, t, h1, h2⟩⟩ := h
  exact ⟨⟨dx, t, s _ _ h1, Dp.same s h2⟩⟩
section
variable {P : Program} {w : World} {K : PySem.W.Frag} {mg : Str → Option Value} {base : Heap}
theorem aps {H : Hp} : ∀ {ps : List M23.Pd} {xs : List V}, DpAll K H xs (ps.map M23.dP) → ∃ bs : List AP, xs = rfs bs ∧ bs.map Prod.snd = ps ∧ Prods K H bs
  | [], _, .nil => ⟨[], rfl, rfl, fun b h => by cases h⟩
  | p :: ps, _, .cons h1 h2 => by
    obtain ⟨bs, rfl, rfl, h3⟩ := aps h2
    obtain ⟨a, rfl, h4⟩ := dp_pd h1
    exact ⟨(a, p) :: bs, rfl, rfl, fun b hb => by
      rcases List.mem_cons.mp hb with rfl | hb
      · exact h4
      · exact h3 b hb⟩
theorem aps_dp {H : Hp} : ∀ {bs : List AP}, Prods K H bs → DpAll K H (rfs bs) ((bs.map Prod.snd).map M23.dP)
  | [], _ => .nil
  | b :: bs, h => .cons (pd_dp (h b List.mem_cons_self)) (aps_dp fun c hc => h c (List.mem_cons_of_mem _ hc))
/-- products handed in: a list or a tuple -/
def Bun (K : PySem.W.Frag) (H : Hp) (v : V) (ps : List M23.Pd) : Prop := ∃ bs : List AP, Sq K H v (rfs bs) ∧ bs.map Prod.snd = ps ∧ Prods K H bs
theorem Prods.same {H H' : Hp} {bs : List AP} (h : Prods K H bs) (s : Same H H') : Prods K H' bs := fun b hb => sqT_same (h b hb) s
theorem Bun.same {H H' : Hp} {v : V} {ps : List M23.Pd} (h : Bun K H v ps) (s : Same H H') : Bun K H' v ps := by
  obtain ⟨bs, h1, h2, h3⟩ := h
  exact ⟨bs, h1.same s, h2, h3.same s⟩
def spWantLets : Sp := fun vs H Q _ => ∃ sg, vs = [tx sg] ∧ Lets sg ∧ ∀ H', Same H H' → Q .non H'
theorem ok_want_letters (T : All K mg) : FnOk P w K mg base CX0 3 T.f_want_letters T.d_want_letters ["letters"] spWantLets := by
  refine T.want_letters.F.ok sc_want_letters (fun vs H Q E h => ?_) (fun cdv A outer s H vs Q E hr h => ?_)
  · obtain ⟨sg, rfl, _⟩ := h
    rfl
  · obtain ⟨sg, rfl, hl, q⟩ := h
    refine ⟨_, pss_one (ps_if (pt_not (pt_val (pe_call (ok_are_letters T) (hr.mono (by decide)) (by rfl) T.are_letters.g T.are_letters.F.kp T.are_letters.b .nil pass0 (pa_cons (pv 0) pa_nil)))) (pss_one ps_never) pss_nil), ?_⟩
    exact ⟨_, rfl, sg, rfl, hl, fun H1 s1 => ⟨true, rfl, ite_f (by decide) (q _ s1)⟩⟩
def spInit (K : PySem.W.Frag) (C : Addr) : Sp := fun vs H Q _ => ∃ (x dx : Addr) (sg : List Nat) (v : V) (ps : List M23.Pd), vs = [.ref x, tx sg, v] ∧ H x = some (.ins C dx []) ∧ Lets sg ∧ Bun K H v ps ∧ (∀ p ∈ ps, PdOk sg p) ∧ ps.length ≤ 20 ∧ (∀ p ∈ ps, p.length ≤ 100) ∧
  ∀ H', (∀ b o, H b = some o → b ≠ x → H' b = some o) → SumO C K H' x sg (M23.kept ps) → Q .non H'
theorem ok_Sum_init (T : All K mg) : FnOk P w K mg base CX0 8 T.f_Sum_init T.d_Sum_init ["self", "letters", "products"] (spInit K T.C_Sum) := by
  refine T.Sum_init.F.ok sc_Sum_init (fun vs H Q E h => ?_) (fun cdv A outer s H vs Q E hr h => ?_)
  · obtain ⟨x, dx, sg, v, ps, rfl, _⟩ := h
    rfl
  · obtain ⟨x, dx, sg, v, ps, rfl, hx, hl, hB, hok, hz, hz2, q⟩ := h
    refine ⟨_, pss_cons (ps_expr (pe_call (ok_want_letters T) (hr.mono (by decide)) (by rfl) T.want_letters.g T.want_letters.F.kp T.want_letters.b .nil pass0 (pa_cons (pv 1) pa_nil)))
      (pss_cons (ps_if (pt_not (pt_val (pe_call (ok_is_list T) (hr.mono (by decide)) (by rfl) T.is_list.g T.is_list.F.kp T.is_list.b .nil pass0 (pa_cons (pv 2) pa_nil)))) (pss_one ps_never) pss_nil)
      (pss_cons (ps_for PassesOwn.never rfl (pi_enumS rfl T.b_enumerate (pa_cons (pv 2) pa_nil)) (pg_tup rfl (pgs_cons (pg_name (i := 3) sc_Sum_init.nd rfl (by first | exact Or.inl rfl | exact Or.inr rfl)) (pgs_cons (pg_name (i := 4) sc_Sum_init.nd rfl (by first | exact Or.inl rfl | exact Or.inr rfl)) pgs_nil)))
        (pss_one (ps_if (pt_not (pt_val (pe_call (ok_is_product_over T) (hr.mono (by decide)) (by rfl) T.is_product_over.g T.is_product_over.F.kp T.is_product_over.b .nil pass0 (pa_cons (pv 1) (pa_cons (pv 4) pa_nil))))) (pss_one ps_never) pss_nil)))
      (pss_cons (ps_set (i := 5) sc_Sum_init.nd rfl (by first | exact Or.inl rfl | exact Or.inr rfl) (pe_call (ok_kept_of T) (hr.mono (by decide)) (by rfl) T.kept_of.g T.kept_of.F.kp T.kept_of.b .nil pass0 (pa_cons (pv 2) pa_nil)))
      (pss_cons (ps_expr (pe_call (ok_want_few T) (hr.mono (by decide)) (by rfl) T.want_few.g T.want_few.F.kp T.want_few.b .nil pass0 (pa_cons pe_str (pa_cons (pe_callB call_len_seq (by rfl) T.b_len PySem.boot_len (pa_cons (pv 5) pa_nil)) (pa_cons (ClX.pe_cval (pe_glob (v := .ref T.C_Sum) rfl T.g_Sum rfl)) pa_nil)))))
      (pss_cons (ps_fld (pv 0) (pv 1) rfl)
      (pss_one (ps_fld (pv 0) (pe_callTy call_tuple_of (by rfl) T.b_tuple (show bootBuiltins "tuple" = some (.type "tuple") by decide +kernel) (pa_cons (pv 5) pa_nil)) rfl))))))), ?_⟩
    refine ⟨_, rfl, sg, rfl, hl, fun H1 s1 => ?_⟩
    obtain ⟨bs, hS, hps, hP⟩ := hB
    refine ⟨_, rfl, v, rfs bs, rfl, hS.same s1, fun H2 s2 => ⟨true, rfl, iteF ?_⟩⟩
    have s12 := s1.trans s2
    obtain ⟨aa, rfl, hSS⟩ := id hS
    obtain ⟨y, ey, hy⟩ := sq_src hS
    refine ⟨_, rfl, y, rfs bs, congrArg (fun z => [z]) ey, hy _ s12, for_it walk_enumS (fun i σ H' => ∃ p r, σ = [some (.ref x), some (tx sg), some (.ref aa), p, r, none] ∧ Same H H') ⟨none, none, rfl, s12⟩ (fun i σ H' _ p => by obtain ⟨_, _, _, sm⟩ := p; exact hy _ sm) (fun i x' σ H3 H4 hi p y => ?_) (fun σ H3 p => ?_)⟩
    · obtain ⟨p0, r0, rfl, sm⟩ := p
      obtain ⟨Tp, x1, x2, rfl, nT, rfl, e1, e2⟩ := y
      cases e1
      have e2 : (rfs bs)[i]? = some x2 := e2
      rw [show (rfs bs)[i]? = (bs[i]?).map fun b => V.ref b.1 from List.getElem?_map] at e2
      obtain ⟨b, hb, rfl⟩ := Option.map_eq_some_iff.mp e2
      have hbm := List.mem_of_getElem? hb
      have sm2 := same_up (o := .tup [.int (i : Nat), .ref b.1]) sm (sm.free nT)
      have hpm : b.2 ∈ ps := hps ▸ List.mem_map_of_mem hbm
      refine ⟨Tp, _, rfl, .inl (.inl upd_same), rfl, _, _, rfl, _, _, rfl, rfl, ?_⟩
      refine ⟨_, rfl, _, rfl, sg, .ref b.1, b.2, rfl, hl, hok _ hpm, Nat.le_trans (hz2 _ hpm) (by decide), pd_dp (sqT_same (hP b hbm) sm2), fun H5 s5 => ⟨true, rfl, iteF ⟨_, _, rfl, sm2.trans s5⟩⟩⟩
    · obtain ⟨p0, r0, rfl, s3⟩ := p
      have hbz : bs.length ≤ 20 := by rw [← hps, List.length_map] at hz; exact hz
      refine ⟨_, rfl, aa, bs, rfl, hSS.elim (fun h => .inl (sq_same h s3)) (fun h => .inr (sqT_same h s3)), hP.same s3, hbz, fun b hb => hz2 _ (hps ▸ List.mem_map_of_mem hb), fun b hb y hy' => (hok _ (hps ▸ List.mem_map_of_mem hb) y hy').tx hl, fun H4 kp cs s4 nk hk hpr hcs => ?_⟩
      have s34 := s3.trans s4
      rw [hps] at hcs
      have hcl : cs.length ≤ 20 := by
        have := M23.kept_len ps
        rw [← hcs, List.length_map] at this
        omega
      obtain ⟨tk, hcv⟩ := T.cv_Sum_MOST_PRODUCTS
      refine ⟨_, rfl, kp, rfs cs, rfl, .inl (.inl (.inl hk)), T.C_Sum, _, _, _, rfl, T.cr_Sum, hcv, _, _, _, rfl, by unfold rfs; rw [List.length_map]; omega, ?_⟩
      refine ⟨_, rfl, _, rfl, x, T.C_Sum, dx, [], rfl, s34 _ _ hx, T.cl_Sum, T.n_Sum_own_letters, by decide, ?_⟩
      have hx4 := s34 _ _ hx
      have nkx : kp ≠ x := fun e => by rw [e, s3 _ _ hx] at nk; cases nk
      refine ⟨_, rfl, kp, rfs cs, rfl, .inl ⟨.inl (.inl (by rw [upd_ne nkx]; exact hk)), fun t nt => ?_⟩⟩
      have ntx : x ≠ t := fun e => by rw [← e, upd_same] at nt; cases nt
      have nt4 : H4 t = none := by rw [upd_ne ntx.symm] at nt; exact nt
      refine ⟨_, rfl, x, T.C_Sum, dx, _, rfl, by rw [upd_ne ntx, upd_same], T.cl_Sum, T.n_Sum_own_products, putF_lt (n := 0) (Nat.zero_le _) (by decide), ?_⟩
      have sd : Same (del H4 x) (upd (upd (upd H4 x (.ins T.C_Sum dx (putF "own_letters" (tx sg) []))) t (.tup (rfs cs))) x (.ins T.C_Sum dx (putF "own_products" (.ref t) (putF "own_letters" (tx sg) [])))) := fun b o e => by
        have nb : b ≠ x := fun z => by rw [z, del_at] at e; cases e
        rw [del_ne nb] at e
        rw [upd_ne nb, upd_ne (ne_of_none e nt4), upd_ne nb]
        exact e
      refine q _ (fun b o e nb => sd _ _ (by rw [del_ne nb]; exact s34 _ _ e)) ⟨⟨dx, t, upd_same, .tup (.inl (.inl (by rw [upd_ne ntx.symm, upd_same]))) ?_⟩⟩
      have ha := aps_dp hpr
      rw [hcs] at ha
      exact DpAll.same sd (dpAll_del hx4 ha)
end
end Lw
namespace L3
open PySem PySem.Spec PyProof.Rows L2
section
variable {X : Cx} {k : Nat} {g : List Code}
/-- {e!r}, e a list of data, empty ones too, while reprs are under way -/
def tFmtRE (K : PySem.W.Frag) (g : List Code) (te : TE) : TE := fun σ H Q => te σ H fun x H1 => ∃ (a : Addr) (d : PyData), x = .ref a ∧ Dp K H1 x d ∧ (∃ es, d = .list es) ∧ GOk H1 g ∧ d.showable = true ∧ d.shown.length ≤ sizeLine ∧ d.depth ≤ 50 ∧ Q (.str d.shown) H1
theorem pe_fmtRE {e : Expr} {te : TE} {pos : Pos} (hr : Room k X.A) (hG : X.A.guards = some g) (he : PE X e te) : PE X (.FormattedValue e 114 none pos) (tFmtRE X.K g te) := by
  refine ⟨fun pins s σ H Q I h => ?_⟩
  refine wpAny_FormattedValue_repr (thn (he.run pins s σ H _ I h) fun v s1 hv => ?_)
  obtain ⟨x, H1, I1, r1, a, d', rfl, hd, ⟨dss, rfl⟩, hgo, hs, hz, hdp, q⟩ := hv
  cases r1
  have hu := hr.units
  cases dss with
  | nil =>
    obtain ⟨as, hR⟩ := Dp.reads I1 _ (.ref a) (.ref a) hd rfl
    cases hR with
    | @list _ o vs n _ bs0 h1 h2 h3 h4 =>
      obtain ⟨lv⟩ := vs
      cases lv with
      | cons y ys => cases h4
      | nil =>
        refine wpAny_pyReprObj_list_empty ⟨o, h1, h2⟩ (by omega) h1 h3 ?_
        have hsh : (PyData.list []).shown = ("[]" : Str) := by decide +kernel
        rw [hsh] at q hz
        exact wpAny_formatField_str ⟨.str _, H1, I1.tok _, ⟨_, rfl⟩, q⟩ ⟨.str _, H1, (I1.tok _).tok _, ⟨_, rfl⟩, q⟩ hz
  | cons d ds =>
    obtain ⟨as, hR⟩ := Dp.reads I1 _ (.ref a) (.ref a) hd rfl
    have hcl : ∀ {b : Addr} {d' : PyData} {as' : List Addr}, Reads s1.heap (.ref b) d' as' → Clear g b := fun r => gok_clear I1 hgo r
    have hR0 := hR
    have hnd := dp_noDict (K := X.K) (H := H1) hd
    cases hR with
    | @list _ o vs n _ bs0 h1 h2 h3 h4 =>
      obtain ⟨lv⟩ := vs
      cases lv with
      | nil => cases h4
      | cons y ys =>
        have hz' : (listText (PyData.shownAll (d :: ds))).length ≤ sizeLine := by simpa only [PyData.shown] using hz
        obtain ⟨bs, hb, hk⟩ := ReprAllK.of_readsAll (prog := X.prog) (w := X.w) h4 (by simpa [PyData.showable] using hs) (fun hx => absurd hx (by
          have : PyData.hasDictAll (d :: ds) = false := by simpa [PyData.hasDict] using hnd
          rw [this]; decide)) (fun t ht => Nat.le_trans (listText_mem_le ht) hz')
        have hna : a ∉ bs := not_mem_of_deeper hR0 (by simp only [PyData.depth]; omega) hb
        have hdd : PyData.depthAll (d :: ds) + 1 ≤ 50 := by simpa [PyData.depth] using hdp
        refine wpAny_pyReprObj_listK h1 h2 h3 hna (by simpa using hk.length_eq) (fun i y e => hk.item i y (by simpa using e)) hG (fun b hbm => ?_) (by omega) (fun _ _ e => e) (fun h' t tk hk' => ?_) hz'
        · rcases List.mem_cons.mp hbm with rfl | hbm
          · exact hcl hR0
          · obtain ⟨d', as', r', _⟩ := hb b hbm
            exact hcl r'
        · have hsh : (PyData.list (d :: ds)).shown = listText (PyData.shownAll (d :: ds)) := by simp only [PyData.shown]
          rw [← hsh]
          exact wpAny_formatField_str ⟨.str _, H1, I1.kept hk', ⟨_, rfl⟩, q⟩ ⟨.str _, H1, (I1.kept hk').tok _, ⟨_, rfl⟩, q⟩ hz
end
end L3
namespace Lw
open PySem PySem.Spec PyProof.Rows L3
open L2 hiding del del_same del_ne
def isTyV : Value → Bool
  | .type _ => true
  | _ => false
def plainTy (ty : String) : Bool := match PySem.fastBuiltinMro ty with
  | some l => l.all isTyV
  | none => false
theorem sub_plain {K : PySem.W.Frag} {C : Addr} {ty : String} (h : plainTy ty = true) : PySem.W.subIn K (.type ty) (.ref C) = some false := by
  unfold plainTy at h
  show (PySem.fastBuiltinMro ty).map (·.contains (.ref C)) = some false
  cases e : PySem.fastBuiltinMro ty with
  | none => rw [e] at h; cases h
  | some l =>
    rw [e] at h
    simp only [Option.map_some, Option.some.injEq]
    rw [← Bool.not_eq_true, List.contains_iff_mem]
    intro hm
    have := List.all_eq_true.mp h _ hm
    cases this
theorem first_own {K : PySem.W.Frag} {C : Addr} : PySem.W.notFirst K C (.ref C) = true := by
  unfold PySem.W.notFirst
  simp
theorem shownLen {d : PyData} {w k : Nat} (h : Wt d w k) : d.shown.length ≤ 12 * w + 10 := by
  have h1 := PyData.shown_le 10 (by decide) d h.l
  have h2 := h.w
  have h3 : (10 + 2) * d.weight ≤ 12 * w := Nat.mul_le_mul_left 12 h2
  omega
/-- products that can be told -/
def Few (kp : List M23.Pd) : Prop := kp.length ≤ 20 ∧ ∀ p ∈ kp, p.length ≤ 20 ∧ ∀ y ∈ p, TxOk y
theorem wt_dPL {kp : List M23.Pd} (h : Few kp) : Wt (dPL kp) (221 * 20) 2 := by
  refine Wt.list (w := 220) (k := 1) (fun d hd => ?_) (by rw [List.length_map]; exact h.1)
  obtain ⟨p, hp, rfl⟩ := List.mem_map.mp hd
  exact wt_dP (h.2 p hp).2 (h.2 p hp).1
theorem wt_dPT {kp : List M23.Pd} (h : Few kp) : Wt (dPT kp) (221 * 20) 2 := by
  refine Wt.tuple (w := 220) (k := 1) (fun d hd => ?_) (by rw [List.length_map]; exact h.1)
  obtain ⟨p, hp, rfl⟩ := List.mem_map.mp hd
  exact wt_dP (h.2 p hp).2 (h.2 p hp).1
theorem wt_sg {sg : List Nat} (h : Lets sg) : Wt (.str (tS sg)) 3 0 := Wt.text (fun c hc => by have := h.az c hc; omega) h.few
theorem eqv_prods (R S : List M23.Pd) : PyData.eqv (dPT R) (dPT S) = decide (R = S) := by
  show PyData.eqvAll _ _ = _
  exact eqv_map M23.dP eqv_dP R S
/-- how a sum is shown -/
def spk (sg : List Nat) (kp : List M23.Pd) : Str := ((((("Sum(" : Str) ++ reprText (tS sg)) ++ (", " : Str)) ++ (dPL kp).shown)) ++ (")" : Str)
theorem dpT_at {K : PySem.W.Frag} {H : Hp} {a : Addr} {kp : List M23.Pd} (h : Dp K H (.ref a) (dPT kp)) : ∃ bs : List AP, SqT K H a (rfs bs) ∧ bs.map Prod.snd = kp ∧ Prods K H bs := by
  obtain ⟨b, xs, e, h1, h2⟩ := dp_tuple h
  cases e
  obtain ⟨bs, rfl, h3, h4⟩ := aps h2
  exact ⟨bs, h1, h3, h4⟩
section
variable {P : Program} {w : World} {K : PySem.W.Frag} {mg : Str → Option Value} {base : Heap}
theorem ty_sum (T : All K mg) {H : Hp} {a : Addr} {sg : List Nat} {kp : List M23.Pd} (h : SumO T.C_Sum K H a sg kp) : TyX K H (.ref a) (.ref T.C_Sum) := by
  obtain ⟨dx, t, hat, _⟩ := h.at_
  exact .base (.ins hat T.cl_Sum T.ca_Sum T.cg_Sum T.ct_Sum (mro_obj T.mk_Sum))
theorem kit_own (T : All K mg) : PySem.W.kitOne K (.ref T.C_Sum) (.ref T.C_Sum) = some true := if_pos (beq_self_eq_true _)
theorem kit_plain (T : All K mg) {ty : String} (h : plainTy ty = true) : PySem.W.kitOne K (.type ty) (.ref T.C_Sum) = some false := by
  unfold PySem.W.kitOne
  rw [if_neg (by simp)]
  unfold PySem.W.kitCls
  obtain ⟨cd, hc, _⟩ := PySem.W.any_some T.cl_Sum.hd
  have e : ((PySem.W.clsIn K T.C_Sum).isSome && PySem.W.typeIn K (.ref T.C_Sum) == some (.type "type")) = true := by
    rw [hc, T.tt_Sum]
    simp
  simp only []
  rw [if_pos e]
  exact sub_plain h
def spLetters (K : PySem.W.Frag) (C : Addr) : Sp := fun vs H Q _ => ∃ a sg kp, vs = [.ref a] ∧ SumO C K H a sg kp ∧ Q (tx sg) H
theorem ok_Sum_letters (T : All K mg) : FnOk P w K mg base CX0 1 T.f_Sum_letters T.d_Sum_letters ["self"] (spLetters K T.C_Sum) := by
  refine T.Sum_letters.F.ok sc_Sum_letters (fun vs H Q E h => ?_) (fun cdv A outer s H vs Q E hr h => ?_)
  · obtain ⟨a, sg, kp, rfl, _⟩ := h
    rfl
  · obtain ⟨a, sg, kp, rfl, hM, q⟩ := h
    obtain ⟨dx, t, hat, hd⟩ := hM.at_
    refine ⟨_, pss_one (ps_ret (pe_fld (pv 0) rfl)), ?_⟩
    exact ⟨_, rfl, a, T.C_Sum, dx, _, _, rfl, hat, T.cl_Sum, T.n_Sum_own_letters, rfl, q⟩
def spProducts (K : PySem.W.Frag) (C : Addr) : Sp := fun vs H Q _ => ∃ a sg kp, vs = [.ref a] ∧ SumO C K H a sg kp ∧ ∀ p (bs : List AP), H p = none → bs.map Prod.snd = kp → Prods K H bs → Q (.ref p) (upd H p (.lst (rfs bs)))
theorem ok_Sum_products (T : All K mg) : FnOk P w K mg base CX0 1 T.f_Sum_products T.d_Sum_products ["self"] (spProducts K T.C_Sum) := by
  refine T.Sum_products.F.ok sc_Sum_products (fun vs H Q E h => ?_) (fun cdv A outer s H vs Q E hr h => ?_)
  · obtain ⟨a, sg, kp, rfl, _⟩ := h
    rfl
  · obtain ⟨a, sg, kp, rfl, hM, q⟩ := h
    obtain ⟨dx, t, hat, hd⟩ := hM.at_
    obtain ⟨bs, h1, h2, h3⟩ := dpT_at hd
    refine ⟨_, pss_one (ps_ret (pe_callTy call_list_of (by rfl) T.b_list PyProof.Rows.boot_list (pa_cons (pe_fld (pv 0) rfl) pa_nil))), ?_⟩
    exact ⟨_, rfl, a, T.C_Sum, dx, _, _, rfl, hat, T.cl_Sum, T.n_Sum_own_products, rfl, t, _, rfl, .inr h1, fun p np => q p bs np h2 h3⟩
def spLen (K : PySem.W.Frag) (C : Addr) : Sp := fun vs H Q _ => ∃ a sg kp, vs = [.ref a] ∧ SumO C K H a sg kp ∧ Q (.int (kp.length : Int)) H
theorem ok_Sum_len (T : All K mg) : FnOk P w K mg base CX0 1 T.f_Sum_len T.d_Sum_len ["self"] (spLen K T.C_Sum) := by
  refine T.Sum_len.F.ok sc_Sum_len (fun vs H Q E h => ?_) (fun cdv A outer s H vs Q E hr h => ?_)
  · obtain ⟨a, sg, kp, rfl, _⟩ := h
    rfl
  · obtain ⟨a, sg, kp, rfl, hM, q⟩ := h
    obtain ⟨dx, t, hat, hd⟩ := hM.at_
    obtain ⟨bs, h1, h2, h3⟩ := dpT_at hd
    refine ⟨_, pss_one (ps_ret (pe_callB call_len_seq (by rfl) T.b_len PySem.boot_len (pa_cons (pe_fld (pv 0) rfl) pa_nil))), ?_⟩
    refine ⟨_, rfl, a, T.C_Sum, dx, _, _, rfl, hat, T.cl_Sum, T.n_Sum_own_products, rfl, t, _, rfl, .inr h1, ?_⟩
    have e : (rfs bs).length = kp.length := by rw [← h2]; unfold rfs; rw [List.length_map, List.length_map]
    rw [e]
    exact q
def spEqS (K : PySem.W.Frag) (C : Addr) : Sp := fun vs H Q _ => ∃ (a : Addr) (v : V) (sg : List Nat) (kp : List M23.Pd), vs = [.ref a, v] ∧ SumO C K H a sg kp ∧ Few kp ∧
  ((∃ (b : Addr) (sg' : List Nat) (kp' : List M23.Pd), v = .ref b ∧ SumO C K H b sg' kp' ∧ Few kp' ∧ Q (.bl (decide (sg = sg') && decide (kp = kp'))) H) ∨ ∃ ty, TyX K H v (.type ty) ∧ plainTy ty = true ∧ Q (.bl false) H)
theorem ok_Sum_eq (T : All K mg) : FnOk P w K mg base CX0 1 T.f_Sum_eq T.d_Sum_eq ["self", "other"] (spEqS K T.C_Sum) := by
  refine T.Sum_eq.F.ok sc_Sum_eq (fun vs H Q E h => ?_) (fun cdv A outer s H vs Q E hr h => ?_)
  · obtain ⟨a, v, sg, kp, rfl, _⟩ := h
    rfl
  · obtain ⟨a, v, sg, kp, rfl, hM, hf, hh⟩ := h
    obtain ⟨dx, t, hat, hd⟩ := hM.at_
    refine ⟨_, pss_cons (ps_if (pt_not (pt_val (pe_callB call_isi (by rfl) T.b_isinstance boot_isinstance (pa_cons (pv 1) (pa_cons (pe_glob (v := .ref T.C_Sum) rfl T.g_Sum rfl) pa_nil))))) (pss_one (ps_ret pe_bl)) pss_nil)
      (pss_one (ps_ret (pe_and (pe_cmpR op_eq (pe_fld (pv 0) rfl) (pe_fld (pv 1) rfl) (by rfl))
        (pe_one (pe_cmpR (op_eqD (u64 hr)) (pe_fld (pv 0) rfl) (pe_fld (pv 1) rfl) (by rfl)))))), ?_⟩
    rcases hh with ⟨b, sg', kp', rfl, hM', hf', q⟩ | ⟨ty, hty, hp, q⟩
    · obtain ⟨dx', t', hat', hd'⟩ := hM'.at_
      refine ⟨_, rfl, _, .ref T.C_Sum, .ref T.C_Sum, .ref T.C_Sum, true, rfl, .own _, ty_sum T hM', kit_own T, true, rfl, iteF ?_⟩
      refine ⟨_, rfl, a, T.C_Sum, dx, _, _, rfl, hat, T.cl_Sum, T.n_Sum_own_letters, rfl, _, rfl, b, T.C_Sum, dx', _, _, rfl, hat', T.cl_Sum, T.n_Sum_own_letters, rfl, rfl, _, rfl, ?_⟩
      rw [tx_dec]
      by_cases e1 : sg = sg'
      · refine ite_t (by simp [e1]) ?_
        refine ⟨_, rfl, a, T.C_Sum, dx, _, _, rfl, hat, T.cl_Sum, T.n_Sum_own_products, rfl, _, rfl, b, T.C_Sum, dx', _, _, rfl, hat', T.cl_Sum, T.n_Sum_own_products, rfl, _, _, hd, hd', (wt_dPT hf).shaped (by decide), (wt_dPT hf').shaped (by decide), ?_⟩
        rw [eqv_prods]
        rw [decide_eq_true e1, Bool.true_and] at q
        exact q
      · refine ite_f (by simp [e1]) ?_
        rw [decide_eq_false e1, Bool.false_and] at q
        exact q
    · refine ⟨_, rfl, v, .ref T.C_Sum, .type ty, .ref T.C_Sum, false, rfl, .own _, hty, kit_plain T hp, false, rfl, iteT q⟩
theorem isSomeIn {p : M23.Pd} {t : List Nat} : (M23.runI p 0 (M23.tP t)).isSome = true ↔ M23.In p t := M23.runI_some
def spIn (K : PySem.W.Frag) (C : Addr) : Sp := fun vs H Q _ => ∃ (a : Addr) (v : V) (sg : List Nat) (kp : List M23.Pd), vs = [.ref a, v] ∧ SumO C K H a sg kp ∧ Few kp ∧
  ((∃ t, v = tx t ∧ t.length ≤ 2000 ∧ ∀ H', Same H H' → Q (.bl ((t.all fun c => decide (c ∈ sg)) && kp.any fun p => (M23.runI p 0 (M23.tP t)).isSome)) H') ∨ ∃ ty, TyX K H v ty ∧ PySem.W.kitOne K ty (.type "str") = some false ∧ Q (.bl false) H)
theorem ok_Sum_contains (T : All K mg) : FnOk P w K mg base CX0 7 T.f_Sum_contains T.d_Sum_contains ["self", "value"] (spIn K T.C_Sum) := by
  refine T.Sum_contains.F.ok sc_Sum_contains (fun vs H Q E h => ?_) (fun cdv A outer s H vs Q E hr h => ?_)
  · obtain ⟨a, v, sg, kp, rfl, _⟩ := h
    rfl
  · obtain ⟨a, v, sg, kp, rfl, hM, hf, hh⟩ := h
    obtain ⟨dx, t0, hat, hd⟩ := hM.at_
    refine ⟨_, pss_one (ps_ret (pe_and (pe_call (ok_is_text_over T) (hr.mono (by decide)) (by rfl) T.is_text_over.g T.is_text_over.F.kp T.is_text_over.b .nil pass0 (pa_cons (pe_fld (pv 0) rfl) (pa_cons (pv 1) pa_nil)))
        (pe_one (pe_callB (cr_any rfl) (by rfl) T.b_any PyProof.Rows.boot_any (pa_cons (pe_lc (own := [("one", 2)]) (g := gName 2) (tt := tYes) rfl sc_Sum_contains.nd (pi_tup (pe_fld (pv 0) rfl))
          (blkOk_by (own := [("one", 2)]) (N := ["self", "value", "one"]) (sc := defScope s_Sum_contains) (by decide +kernel))
          (fun _ _ _ _ _ => pg_name (i := 2) sc_Sum_contains.nd rfl (by first | exact Or.inl rfl | exact Or.inr rfl)) (fun _ _ _ _ _ => pts_nil)
          (fun _ _ _ _ _ => (pe_call (ok_has_text T) (hr.mono (by decide)) (by rfl) T.has_text.g T.has_text.F.kp T.has_text.b .nil pass0 (pa_cons (pv 2) (pa_cons (pv 1) pa_nil))))) pa_nil))))), ?_⟩
    dsimp only [cxOf]
    refine ⟨_, rfl, a, T.C_Sum, dx, _, _, rfl, hat, T.cl_Sum, T.n_Sum_own_letters, rfl, _, rfl, sg, v, rfl, ?_⟩
    rcases hh with ⟨t, rfl, hz, q⟩ | ⟨ty, hty, hk, q⟩
    · refine .inl ⟨t, rfl, hz, fun H1 s1 => ⟨_, rfl, ?_⟩⟩
      cases hall : (t.all fun c => decide (c ∈ sg)) with
      | false =>
        refine iteF ?_
        rw [hall] at q
        exact q _ s1
      | true =>
        rw [hall] at q
        refine iteT ?_
        obtain ⟨bs, h1, h2, h3⟩ := dpT_at hd
        refine ⟨_, rfl, a, T.C_Sum, dx, _, _, rfl, s1 _ _ hat, T.cl_Sum, T.n_Sum_own_products, rfl, t0, rfl, ⟨_, sqT_same h1 s1⟩, fun D nD => ?_⟩
        have hbl : (rfs bs).length = bs.length := List.length_map _
        have hbk : bs.length ≤ 20 := by have := hf.1; rw [← h2, List.length_map] at this; exact this
        refine lc_gen (walk_tup (xs := rfs bs)) (Same H1) (fun j acc => acc = (bs.take j).map fun b => V.bl (M23.runI b.2 0 (M23.tP t)).isSome) (sz (by rw [hbl]; omega)) (fun i acc e => by rw [e, List.length_map, List.length_take]; omega) rfl (same_upd nD) (fun _ _ h => same_up h nD) (fun _ h => sqT_same h1 (s1.trans h)) (fun j x H4 H5 acc C N hj r hD ha y c n => ?_) (fun H4 xs r hD ha => ?_)
        · obtain ⟨rfl, yy⟩ := y
          rw [show (rfs bs)[j]? = (bs[j]?).map fun b => V.ref b.1 from List.getElem?_map] at yy
          obtain ⟨b, hb, rfl⟩ := Option.map_eq_some_iff.mp yy
          have hbm := List.mem_of_getElem? hb
          have hz2 := hf.2 b.2 (h2 ▸ List.mem_map_of_mem hbm)
          refine ⟨rfl, yes_te ?_⟩
          refine ⟨_, rfl, _, rfl, _, t, b.2, rfl, pd_dp (sqT_same (h3 b hbm) (s1.trans r)), Nat.le_trans hz2.1 (by decide), fun y hy => (hz2.2 y hy).2, hz, fun H6 s6 => c _ _ (r.trans s6) (s6 _ _ hD) ?_⟩
          rw [ha, List.take_add_one, hb, List.map_append]
          rfl
        · subst ha
          rw [hbl, List.take_length] at hD
          refine ⟨D, bs.map fun b => (M23.runI b.2 0 (M23.tP t)).isSome, rfl, .inl (.inl (by rw [hD, List.map_map]; rfl)), ?_⟩
          have e : (bs.map fun b => (M23.runI b.2 0 (M23.tP t)).isSome).any id = kp.any fun p => (M23.runI p 0 (M23.tP t)).isSome := by
            rw [← h2, List.any_map, List.any_map]
            rfl
          rw [e]
          have := q _ (s1.trans r)
          rw [Bool.true_and] at this
          exact this
    · exact .inr ⟨ty, hty, hk, false, rfl, iteF q⟩
def spRepr (K : PySem.W.Frag) (C : Addr) : Sp := fun vs H Q _ => ∃ (a : Addr) (sg : List Nat) (kp : List M23.Pd), vs = [.ref a] ∧ SumO C K H a sg kp ∧ Lets sg ∧ Few kp ∧ ∀ H', Same H H' → Q (.str (spk sg kp)) H'
theorem ok_Sum_repr (T : All K mg) : FnOkH P w K mg base CX0 2 T.f_Sum_repr T.d_Sum_repr ["self"] (spRepr K T.C_Sum) := by
  refine okH T.Sum_repr.F sc_Sum_repr (fun vs H Q E h => ?_) (fun cdv A outer s H vs Q E g hr hG hgo h => ?_)
  · obtain ⟨a, sg, kp, rfl, _⟩ := h
    rfl
  · obtain ⟨a, sg, kp, rfl, hM, hl, hf, q⟩ := h
    obtain ⟨dx, t, hat, hd⟩ := hM.at_
    have l1 : (reprText (tS sg)).length ≤ 46 := shownLen (wt_sg hl)
    have l2 := shownLen (wt_dPL hf)
    have c1 : ("Sum(" : Str).length = 4 := by decide +kernel
    have c2 : (", " : Str).length = 2 := by decide +kernel
    have c3 : (")" : Str).length = 1 := by decide +kernel
    have c0 : Str.empty.length = 0 := rfl
    refine ⟨_, pss_one (ps_ret (pe_joined (PJ.cons pe_str (PJ.cons (pe_fmtR (pe_fld (pv 0) rfl)) (PJ.cons pe_str (PJ.cons (pe_fmtRE hr hG (pe_callTy call_list_of (by rfl) T.b_list PyProof.Rows.boot_list (pa_cons (pe_fld (pv 0) rfl) pa_nil))) (PJ.cons pe_str PJ.nil))))))), ?_⟩
    dsimp only [cxOf]
    have z : ∀ n, n ≤ 1000000 → n ≤ sizeLine := fun n h => by rw [sizeLine_eq]; omega
    refine ⟨_, rfl, z _ (by rw [strLen_append]; omega), ?_⟩
    refine ⟨_, rfl, a, T.C_Sum, dx, _, _, rfl, hat, T.cl_Sum, T.n_Sum_own_letters, rfl, .inl ⟨_, rfl, z _ (by omega), _, rfl, z _ (by rw [strLen_append, strLen_append]; omega), ?_⟩⟩
    refine ⟨_, rfl, z _ (by rw [strLen_append, strLen_append, strLen_append]; omega), ?_⟩
    obtain ⟨bs, h1, h2, h3⟩ := dpT_at hd
    refine ⟨_, rfl, a, T.C_Sum, dx, _, _, rfl, hat, T.cl_Sum, T.n_Sum_own_products, rfl, t, rfs bs, rfl, .inr h1, fun p np => ?_⟩
    have s1 := same_upd (o := .lst (rfs bs)) np
    have sh1 := (wt_dPL hf).shw (by decide) (by decide)
    refine ⟨p, dPL kp, rfl, ?_, ⟨_, rfl⟩, hgo.same s1, sh1.s, sh1.z, sh1.p, _, rfl, z _ (by rw [strLen_append, strLen_append, strLen_append, strLen_append]; omega), ?_⟩
    · have ha := aps_dp (h3.same s1)
      rw [h2] at ha
      exact .lst (.inl (.inl upd_same)) ha
    refine ⟨_, rfl, z _ (by rw [strLen_append, strLen_append, strLen_append, strLen_append, strLen_append]; omega), ?_⟩
    have := q _ s1
    unfold spk at this
    rw [← Str.empty_append ("Sum(" : Str)] at this
    exact this
end
end Lw
namespace Lw
open PySem PySem.Spec PyProof.Rows L3
open L2 hiding del del_same del_ne
section
variable {P : Program} {w : World} {K : PySem.W.Frag} {mg : Str → Option Value} {base : Heap}
/-- a pot: two numbers -/
def Pot (H : Hp) (a : Addr) : Prop := ∃ x y : Int, H a = some (.lst [.int x, .int y]) ∧ 0 ≤ x ∧ 0 ≤ y ∧ y < 4294967296
/-- all but a stays -/
def Off (a : Addr) (H H' : Hp) : Prop := ∀ b o, H b = some o → b ≠ a → H' b = some o
theorem Off.refl (a : Addr) (H : Hp) : Off a H H := fun _ _ e _ => e
theorem Off.trans {a : Addr} {H H1 H2 : Hp} (x : Off a H H1) (y : Off a H1 H2) : Off a H H2 := fun b o e n => y b o (x b o e n) n
theorem Off.of {a : Addr} {H H' : Hp} (s : Same H H') : Off a H H' := fun b o e _ => s b o e
theorem Off.up {a p : Addr} {H H' : Hp} {o : HO} (x : Off a H H') (h : H p = none) : Off a H (upd H' p o) := fun b u e n => by
  rw [upd_ne (ne_of_none e h)]
  exact x b u e n
theorem Off.at {a : Addr} {H H' : Hp} {o : HO} (x : Off a H H') : Off a H (upd H' a o) := fun b u e n => by
  rw [upd_ne n]
  exact x b u e n
theorem Pot.some {H : Hp} {a : Addr} (h : Pot H a) : H a ≠ none := fun e => by
  obtain ⟨x, y, h, _⟩ := h
  rw [e] at h
  cases h
theorem Off.free {a : Addr} {H H' : Hp} (x : Off a H H') {l : Addr} (h : H' l = none) (hp : Pot H' a) : H l = none := by
  cases q : H l with
  | none => rfl
  | some o =>
    by_cases e : l = a
    · subst e
      exact absurd h hp.some
    · rw [x l o q e] at h
      cases h
theorem Off.seq {K : PySem.W.Frag} {a l : Addr} {H H' : Hp} {xs : List V} (x : Off a H H') (n : l ≠ a) (h : SqL K H l xs) : SqL K H' l xs := by
  rcases h with (h | ⟨o, h⟩) | h
  · exact .inl (.inl (x _ _ h n))
  · exact .inl (.inr ⟨o, x _ _ h n⟩)
  · exact .inr h
def spPot (K : PySem.W.Frag) : Sp := fun vs H Q _ => ∃ (a : Addr) (ns : List Int) (k : Nat), vs = [.ref a, .int (k : Int)] ∧ SqL K H a (ns.map V.int) ∧ k ≤ 10 ∧ ∀ H' p, Same H H' → H p = none → Pot H' p → Q (.ref p) H'
theorem pot_fin {H : Hp} {p : Addr} {z : Int} (x : Int) : Pot (upd H p (.lst [.int (if x > 0 then x else 0), .int (z % 2147483579 + 1)])) p := by
  refine ⟨_, _, upd_same, ?_, ?_, ?_⟩
  · split <;> omega
  · omega
  · omega
theorem ok_law_pot (T : All K mg) : FnOk P w K mg base CX0 1 T.f_law_pot T.d_law_pot ["_law_script", "_law_k"] (spPot K) := by
  refine T.law_pot.F.ok sc_law_pot (fun vs H Q E h => ?_) (fun cdv A outer s H vs Q E hr h => ?_)
  · obtain ⟨a, ns, k, rfl, _⟩ := h
    rfl
  · obtain ⟨a, ns, k, rfl, hS, hk, q⟩ := h
    refine ⟨_, pss_cons (ps_set (i := 2) sc_law_pot.nd rfl (.inl rfl) (pe_op op_add (pe_op op_mul pe_int (pv 1)) pe_int))
      (pss_cons (ps_if (pt_cmpR op_lt (pv 1) (pe_callB call_len_seq (by rfl) T.b_len PySem.boot_len (pa_cons (pv 0) pa_nil)) (nomark _))
        (pss_one (ps_set (i := 2) sc_law_pot.nd rfl (.inl rfl) (pe_callB call_abs (by rfl) T.b_abs PyProof.Rows.boot_abs (pa_cons (pe_ix ix_list (pv 0) (pv 1) (fun _ _ => rfl)) pa_nil)))) pss_nil)
      (pss_one (ps_ret (pe_lst (pa_cons (pe_callB (call_max2 rfl) (by rfl) T.b_max PyProof.Rows.boot_max (pa_cons pe_int (pa_cons (pe_op op_sub (pv 2) (pe_op op_pow pe_int pe_int)) pa_nil)))
        (pa_cons (pe_op op_add (pe_op op_mod (pe_callTy call_int1 (by rfl) T.b_int PyProof.Rows.boot_int (pa_cons (pe_op op_add (pe_op op_add (pe_op op_mul (pe_op op_mod (pe_callTy call_int1 (by rfl) T.b_int PyProof.Rows.boot_int (pa_cons (pv 2) pa_nil)) pe_int) pe_int) (pe_op op_mul pe_int (pv 1))) pe_int) pa_nil)) pe_int) pe_int) pa_nil)))))), ?_⟩
    refine ⟨_, rfl, _, _, rfl, rfl, .inl ⟨by decide, by decide⟩, _, _, rfl, rfl, ?_⟩
    refine ⟨_, rfl, _, rfl, a, ns.map V.int, rfl, .inl hS, _, _, rfl, rfl, _, rfl, ite2 (fun e => ?_) (fun e => ?_)⟩
    · have hlt : k < ns.length := by
        have := of_decide_eq_true e
        rw [List.length_map] at this
        omega
      refine ⟨_, rfl, _, rfl, a, _, _, .int ns[k], rfl, rfl, hS, atI_nat (by rw [List.getElem?_map, List.getElem?_eq_getElem hlt]; rfl), _, rfl, ?_⟩
      refine ⟨_, rfl, 10, 18, rfl, rfl, ⟨by decide, by decide, by decide⟩, _, _, rfl, rfl, _, _, rfl, ?_⟩
      refine ⟨_, rfl, .inl ⟨_, rfl, _, _, rfl, rfl, (by show (0 : Int) < 2147483549; decide), _, _, rfl, rfl, .inr ⟨by decide, by decide⟩, _, rfl, _, _, rfl, rfl, .inl ⟨by decide, by decide⟩, _, _, rfl, rfl, _, _, rfl, rfl,
        .inl ⟨_, rfl, _, _, rfl, rfl, (by show (0 : Int) < 2147483579; decide), _, _, rfl, rfl, (by show 2 ≤ sizeLine; decide), fun p np => ?_⟩⟩⟩
      exact q _ p (same_upd np) np (pot_fin _)
    · refine ⟨_, rfl, 10, 18, rfl, rfl, ⟨by decide, by decide, by decide⟩, _, _, rfl, rfl, _, _, rfl, ?_⟩
      refine ⟨_, rfl, .inl ⟨_, rfl, _, _, rfl, rfl, (by show (0 : Int) < 2147483549; decide), _, _, rfl, rfl, .inr ⟨by decide, by decide⟩, _, rfl, _, _, rfl, rfl, .inl ⟨by decide, by decide⟩, _, _, rfl, rfl, _, _, rfl, rfl,
        .inl ⟨_, rfl, _, _, rfl, rfl, (by show (0 : Int) < 2147483579; decide), _, _, rfl, rfl, (by show 2 ≤ sizeLine; decide), fun p np => ?_⟩⟩⟩
      exact q _ p (same_upd np) np (pot_fin _)
def spDraw : Sp := fun vs H Q _ => ∃ (a : Addr) (n : Nat), vs = [.ref a, .int (n : Int)] ∧ Pot H a ∧ 0 < n ∧ n ≤ 1000000 ∧ ∀ (H' : Hp) (d : Nat), d < n → Pot H' a → Off a H H' → Q (.int (d : Int)) H'
theorem ix2_0 {x y : V} : ixN [x, y].length (0 : Int) = some 0 := rfl
theorem ix2_1 {x y : V} : ixN [x, y].length (1 : Int) = some 1 := rfl
theorem ok_law_draw (T : All K mg) : FnOk P w K mg base CX0 1 T.f_law_draw T.d_law_draw ["_law_pot_here", "_law_sides"] spDraw := by
  refine T.law_draw.F.ok sc_law_draw (fun vs H Q E h => ?_) (fun cdv A outer s H vs Q E hr h => ?_)
  · obtain ⟨a, n, rfl, _⟩ := h
    rfl
  · obtain ⟨a, n, rfl, hp, hn, hn2, q⟩ := h
    obtain ⟨x, y, ha, hx, hy, hy2⟩ := hp
    refine ⟨_, pss_cons (ps_if (pt_cmpR op_gt (pe_ix ix_list (pv 0) pe_int (fun _ _ => rfl)) pe_int (nomark _))
        (pss_cons (ps_asg (pe_callB call_divmod (by rfl) T.b_divmod PyProof.Rows.boot_divmod (pa_cons (pe_ix ix_list (pv 0) pe_int (fun _ _ => rfl)) (pa_cons (pv 1) pa_nil))) (pg_tup (by rfl) (pgs_cons (pg_sub (pv 0) pe_int set_list) (pgs_cons (pg_name (i := 2) sc_law_draw.nd rfl (.inl rfl)) pgs_nil))))
        (pss_one (ps_ret (pv 2)))) pss_nil)
      (pss_cons (ps_asg (pe_op op_mod (pe_callTy call_int1 (by rfl) T.b_int PyProof.Rows.boot_int (pa_cons (pe_op op_add (pe_op op_mul (pe_ix ix_list (pv 0) pe_int (fun _ _ => rfl)) pe_int) pe_int) pa_nil)) pe_int) (pg_sub (pv 0) pe_int set_list))
      (pss_one (ps_ret (pe_op op_mod (pe_callTy call_int1 (by rfl) T.b_int PyProof.Rows.boot_int (pa_cons (pe_op op_fdiv (pe_op op_mod (pe_callTy call_int1 (by rfl) T.b_int PyProof.Rows.boot_int (pa_cons (pe_op op_mul (pe_ix ix_list (pv 0) pe_int (fun _ _ => rfl)) (pe_ix ix_list (pv 0) pe_int (fun _ _ => rfl))) pa_nil)) pe_int) pe_int) pa_nil)) (pv 1))))), ?_⟩
    refine ⟨_, rfl, a, _, _, .int x, rfl, rfl, .inl (.inl ha), rfl, _, _, rfl, rfl, _, rfl, ite2 (fun e => ?_) (fun e => ?_)⟩
    · -- the pot's own digits
      have hx0 : 0 < x := of_decide_eq_true e
      refine ⟨_, rfl, a, _, _, .int x, rfl, rfl, .inl (.inl ha), rfl, _, rfl, x, n, rfl, ⟨by omega, by omega⟩, fun t nt => ?_⟩
      have nat' : a ≠ t := ne_of_none ha nt
      have ha2 : upd H t (.tup [.int (x / n), .int (x % n)]) a = some (.lst [.int x, .int y]) := by rw [upd_ne nat']; exact ha
      refine ⟨t, _, rfl, .inl (.inl upd_same), rfl, _, _, rfl, _, rfl, a, _, _, 0, rfl, rfl, ha2, ix2_0, _, _, rfl, rfl, ?_⟩
      have h0 := Int.emod_nonneg x (show (n : Int) ≠ 0 by omega)
      have h1 := Int.emod_lt_of_pos x (show (0 : Int) < (n : Int) by omega)
      obtain ⟨d, hd⟩ := Int.eq_ofNat_of_zero_le h0
      refine ⟨_, rfl, ?_⟩
      rw [hd]
      refine q _ d (by omega) ⟨x / n, y, upd_same, Int.ediv_nonneg hx (by omega), hy, hy2⟩ (Off.at (Off.up (Off.refl a H) nt))
    · -- the mixed number
      refine ⟨_, rfl, a, _, _, .int y, rfl, rfl, .inl (.inl ha), rfl, y, _, rfl, rfl, .inl ⟨by omega, by omega⟩, _, _, rfl, rfl, .inl ⟨_, rfl, _, _, rfl, rfl, (by show (0 : Int) < 2147483563; decide), ?_⟩⟩
      refine ⟨_, rfl, a, _, _, 1, rfl, rfl, ha, ix2_1, ?_⟩
      have hz := Int.emod_nonneg (y * 40014 + 22630) (show (2147483563 : Int) ≠ 0 by decide)
      have hz2 := Int.emod_lt_of_pos (y * 40014 + 22630) (show (0 : Int) < 2147483563 by decide)
      obtain ⟨z, hz0⟩ : ∃ z, (y * 40014 + 22630) % 2147483563 = z := ⟨_, rfl⟩
      have hA : upd H a (.lst ([V.int x, V.int y].set 1 ((fun i j => V.int (i % j)) (y * 40014 + 22630) 2147483563))) a = some (.lst [.int x, .int z]) := by
        rw [upd_same]
        show some (HO.lst [V.int x, V.int ((y * 40014 + 22630) % 2147483563)]) = _
        rw [hz0]
      rw [hz0] at hz hz2
      refine ⟨_, rfl, a, _, _, .int z, rfl, rfl, .inl (.inl hA), rfl, _, rfl, a, _, _, .int z, rfl, rfl, .inl (.inl hA), rfl, z, z, rfl, rfl, .inl ⟨by omega, by omega⟩,
        .inl ⟨_, rfl, _, _, rfl, rfl, (by show (0 : Int) < 2147483543; decide), _, _, rfl, rfl, ⟨by decide, by decide⟩, .inl ⟨_, rfl, _, rfl, _, _, rfl, rfl, (by show (0 : Int) < (n : Int); omega), ?_⟩⟩⟩
      have h0 := Int.emod_nonneg (z * z % 2147483543 / 15) (show (n : Int) ≠ 0 by omega)
      have h1 := Int.emod_lt_of_pos (z * z % 2147483543 / 15) (show (0 : Int) < (n : Int) by omega)
      obtain ⟨d, hd⟩ := Int.eq_ofNat_of_zero_le h0
      show Q (.int (z * z % 2147483543 / 15 % (n : Int))) _
      rw [hd]
      exact q _ d (by omega) ⟨x, z, hA, hx, hz, by omega⟩ (Off.at (Off.refl a H))
def spPick (K : PySem.W.Frag) : Sp := fun vs H Q _ => ∃ (a : Addr) (x : V), vs = [.ref a, x] ∧ Pot H a ∧
  ((∃ l : List Nat, x = tx l ∧ l ≠ [] ∧ l.length ≤ 1000 ∧ ∀ (H' : Hp) (c : Nat), c ∈ l → Pot H' a → Off a H H' → Q (tx [c]) H') ∨
   ∃ (b : Addr) (xs : List V), x = .ref b ∧ b ≠ a ∧ SqL K H b xs ∧ xs ≠ [] ∧ xs.length ≤ 1000 ∧ ∀ (H' : Hp) (v : V), v ∈ xs → Pot H' a → Off a H H' → Q v H')
theorem ok_law_pick (T : All K mg) : FnOk P w K mg base CX0 2 T.f_law_pick T.d_law_pick ["_law_pot_here", "_law_some"] (spPick K) := by
  refine T.law_pick.F.ok sc_law_pick (fun vs H Q E h => ?_) (fun cdv A outer s H vs Q E hr h => ?_)
  · obtain ⟨a, x, rfl, _⟩ := h
    rfl
  · obtain ⟨a, x, rfl, hp, h⟩ := h
    refine ⟨_, pss_one (ps_ret (pe_ix ix_seq (pv 1) (pe_call (ok_law_draw T) hr (by rfl) T.law_draw.g T.law_draw.F.kp T.law_draw.b .nil pass0 (pa_cons (pv 0) (pa_cons (pe_callB call_len (by rfl) T.b_len PySem.boot_len (pa_cons (pv 1) pa_nil)) pa_nil))) (fun _ _ => rfl))), ?_⟩
    rcases h with ⟨l, rfl, hl, hl2, q⟩ | ⟨b, xs, rfl, hba, hS, hl, hl2, q⟩
    · have hpos : 0 < l.length := List.length_pos_iff.mpr hl
      refine ⟨_, rfl, _, rfl, _, rfl, _, l.length, rfl, ⟨by rw [tS_len, sizeLine_eq]; omega, (tS_len l).symm⟩, a, l.length, rfl, hp, hpos, by omega, fun H' d hd hp' ho => ?_⟩
      refine .inr (.inr ⟨_, _, l[d], rfl, rfl, by rw [tS_len, sizeLine_eq]; omega, atI_nat (by simp [hd]), ?_⟩)
      exact q H' l[d] (List.getElem_mem hd) hp' ho
    · have hpos : 0 < xs.length := List.length_pos_iff.mpr hl
      refine ⟨_, rfl, _, rfl, _, rfl, _, xs.length, rfl, .inl ⟨xs, hS, rfl⟩, a, xs.length, rfl, hp, hpos, by omega, fun H' d hd hp' ho => ?_⟩
      refine .inl ⟨b, xs, _, xs[d], rfl, rfl, ho.seq hba hS, atI_nat (List.getElem?_eq_getElem hd), ?_⟩
      exact q H' xs[d] (List.getElem_mem hd) hp' ho
theorem Pot.up {H : Hp} {a p : Addr} {o : HO} (h : Pot H a) (n : a ≠ p) : Pot (upd H p o) a := by
  obtain ⟨x, y, e, r⟩ := h
  exact ⟨x, y, by rw [upd_ne n]; exact e, r⟩
theorem Pot.ne {H : Hp} {a p : Addr} (h : Pot H a) (e : H p = none) : a ≠ p := fun z => h.some (by rw [z]; exact e)
theorem Pot.same {H H' : Hp} {a : Addr} (h : Pot H a) (s : Same H H') : Pot H' a := by
  obtain ⟨x, y, e, r⟩ := h
  exact ⟨x, y, s _ _ e, r⟩
theorem off_del {a : Addr} {H H' : Hp} (x : Off a H H') : Same (del H a) (del H' a) := fun b o e => by
  unfold del at e ⊢
  by_cases h : b = a
  · rw [if_pos h] at e; cases e
  · rw [if_neg h] at e ⊢; exact x b o e h
end
end Lw
namespace L3
open PySem PySem.Spec PyProof.Rows L2
/-- an expression that is never reached -/
theorem pe_never {X : Cx} {e : Expr} : PE X e (fun _ _ _ => False) := ⟨fun _ _ _ _ _ _ h => h.elim⟩
/-- the bytes of these codes -/
def BytL (b : Array UInt8) (l : List Nat) : Prop := bi b = l.map fun c => ((c : Nat) : Int)
def rEncode (x : V) (xs : List V) (H : Hp) (Q : VK) : Prop := ∃ l : List Nat, x = tx l ∧ xs = [] ∧ (∀ c ∈ l, c < 128) ∧ l.length ≤ 100000 ∧ ∀ b : Array UInt8, BytL b l → b.size = l.length → Q (.byt b) H
theorem mt_encode {X : Cx} : MtR X "str.encode" rEncode := by
  intro pins s σ H x xs v us Q I rx rs h
  obtain ⟨l, rfl, rfl, ha, hz, q⟩ := h
  obtain ⟨t, rfl⟩ := rx
  cases rs
  refine PySem.W.KSb.encode_K (fun c hc => ha c hc) (by show l.toArray.size ≤ _; simp; omega) (fun c t' k e1 e2 e3 => ?_)
  have e4 : bi c = l.map fun c => ((c : Nat) : Int) := e1.trans (by simp [PySem.W.KSb.codes])
  refine ⟨.byt c, H, I.tok k, ⟨t', rfl⟩, q c e4 ?_⟩
  have := congrArg List.length e4
  rw [List.length_map] at this
  rw [← this]
  simp [PySem.W.KBw.bInts]
theorem fold_len {f : UInt8 → Array Nat} (hf : ∀ c, (f c).size ≤ 4) : ∀ (l : List UInt8) (q : Array Nat), (l.foldl (fun acc c => acc ++ f c) q).size ≤ q.size + 4 * l.length
  | [], q => by simp
  | c :: l, q => by
    rw [List.foldl_cons, List.length_cons]
    have h1 := fold_len hf l (q ++ f c)
    have h2 := hf c
    rw [Array.size_append] at h1
    omega
end L3
namespace M14
def row (R : List (List Nat)) (p : Nat) : List Nat := R.getD p []
/-- rows in range -/
def Val (R : List (List Nat)) : Prop := ∀ p, p < R.length → ∀ g ∈ row R p, g < R.length
/-- a sheet of a machine with n letters -/
structure Sht (n : Nat) (R : List (List Nat)) (k : List Bool) : Prop where
  ne : 0 < R.length
  few : R.length ≤ 40
  len : ∀ r ∈ R, r.length = n
  val : Val R
  kin : k.length = R.length
def kAt (k : List Bool) (p : Nat) : Bool := k.getD p false
def addF (t : List Nat) (L : List (Nat × List Nat)) (cg : Nat × Nat) : List (Nat × List Nat) := if cg.2 ∈ L.map (·.1) then L else L ++ [(cg.2, t ++ [cg.1])]
def fstI (sg : List Nat) (R : List (List Nat)) : Nat → List (Nat × List Nat)
  | 0 => [(0, [])]
  | n + 1 => match (fstI sg R n)[n]? with
    | some q => (sg.zip (row R q.1)).foldl (addF q.2) (fstI sg R n)
    | none => fstI sg R n
def fst (sg : List Nat) (R : List (List Nat)) : List (Nat × List Nat) := fstI sg R R.length
def led (sg : List Nat) (R : List (List Nat)) (p : Nat) (t : List Nat) : Nat := t.foldl (fun p c => (row R p).getD (sg.idxOf c) 0) p
end M14
namespace M90
open PySem PySem.Spec PyProof.Rows L3
/-- the figures of a number below 100 -/
def dec (n : Nat) : List Nat := if n < 10 then [48 + n] else [48 + n / 10, 48 + n % 10]
def wd (b : Bool) : List Nat := if b then [121, 101, 115] else [110, 111]
def wLet : List Nat := [108, 101, 116, 116, 101, 114, 115]
def wTo : List Nat := [116, 111]
/-- words with blanks between them -/
abbrev jn (ws : List (List Nat)) : List Nat := TL.joinL [32] ws
/-- the words of a place's row -/
def words (b : Bool) (p : Nat) (r : List Nat) : List (List Nat) := wd b :: dec p :: wTo :: r.map dec
/-- the words of all rows -/
def rowW (R : List (List Nat)) (k : List Bool) (p : Nat) : List (List Nat) := words (M14.kAt k p) p (M14.row R p)
def allW (sg : List Nat) (R : List (List Nat)) (k : List Bool) : List (List (List Nat)) := [wLet, sg] :: (List.range R.length).map (rowW R k)
/-- the rows, without and with their ends -/
def rows (sg : List Nat) (R : List (List Nat)) (k : List Bool) : List (List Nat) := (allW sg R k).map jn
def endd (l : List Nat) : List Nat := l ++ [10]
def text (sg : List Nat) (R : List (List Nat)) (k : List Bool) : List Nat := ((rows sg R k).map endd).flatten
theorem dec_fig {n : Nat} (h : n < 60) : ∀ c ∈ dec n, 48 ≤ c ∧ c ≤ 57 := by
  intro c hc
  unfold dec at hc
  split at hc
  · rw [List.mem_singleton.mp hc]; omega
  · simp only [List.mem_cons, List.not_mem_nil, or_false] at hc
    rcases hc with rfl | rfl <;> omega
/-- a sign of a word: a small letter or a figure -/
def Sgn (c : Nat) : Prop := (97 ≤ c ∧ c ≤ 122) ∨ (48 ≤ c ∧ c ≤ 57)
theorem wd_sgn (b : Bool) : ∀ c ∈ wd b, Sgn c := by cases b <;> (intro c hc; simp [wd] at hc; unfold Sgn; omega)
theorem words_sgn {b : Bool} {p : Nat} {r : List Nat} (hp : p < 60) (hr : ∀ g ∈ r, g < 60) : ∀ w ∈ words b p r, ∀ c ∈ w, Sgn c := by
  intro w hw
  unfold words at hw
  simp only [List.mem_cons, List.mem_map] at hw
  rcases hw with rfl | rfl | rfl | ⟨g, hg, rfl⟩
  · exact wd_sgn b
  · exact fun c hc => .inr (dec_fig hp c hc)
  · intro c hc; simp [wTo] at hc; unfold Sgn; omega
  · exact fun c hc => .inr (dec_fig (hr g hg) c hc)
theorem jn_mem {ws : List (List Nat)} {c : Nat} : c ∈ jn ws → c = 32 ∨ ∃ w ∈ ws, c ∈ w := by
  unfold jn
  induction ws with
  | nil => intro h; exact nomatch h
  | cons p r ih =>
    cases r with
    | nil => intro h; exact .inr ⟨p, List.mem_cons_self, h⟩
    | cons q r =>
      intro h
      have h : c ∈ p ++ ([32] ++ TL.joinL [32] (q :: r)) := h
      rw [List.mem_append, List.mem_append, List.mem_singleton] at h
      rcases h with h | h | h
      · exact .inr ⟨p, List.mem_cons_self, h⟩
      · exact .inl h
      · rcases ih h with h | ⟨w, h1, h2⟩
        · exact .inl h
        · exact .inr ⟨w, List.mem_cons_of_mem _ h1, h2⟩
theorem jn_len (ws : List (List Nat)) (m : Nat) (h : ∀ w ∈ ws, w.length ≤ m) : (jn ws).length ≤ ws.length * (m + 1) := by
  unfold jn
  induction ws with
  | nil => simp [TL.joinL]
  | cons p r ih =>
    have h1 := h p List.mem_cons_self
    have h2 := ih fun w hw => h w (List.mem_cons_of_mem _ hw)
    cases r with
    | nil =>
      show p.length ≤ _
      simp
      omega
    | cons q r =>
      show (p ++ ([32] ++ TL.joinL [32] (q :: r))).length ≤ _
      rw [List.length_append, List.length_append, List.length_singleton, List.length_cons (a := p), Nat.add_mul]
      omega
/-- the whole text, split into its rows -/
theorem flat_join : ∀ ls : List (List Nat), (ls.map endd).flatten = TL.joinL [10] (ls ++ [[]])
  | [] => rfl
  | l :: ls => by
    rw [List.map_cons, List.flatten_cons, flat_join ls]
    have e : ∃ q r, ls ++ [[]] = q :: r := by cases ls <;> exact ⟨_, _, rfl⟩
    obtain ⟨q, r, e⟩ := e
    rw [List.cons_append, e]
    show endd l ++ TL.joinL [10] (q :: r) = l ++ ([10] ++ TL.joinL [10] (q :: r))
    unfold endd
    rw [List.append_assoc]
structure Ok (sg : List Nat) (R : List (List Nat)) (k : List Bool) : Prop where
  az : ∀ c ∈ sg, 97 ≤ c ∧ c ≤ 122
  ne : 0 < sg.length
  few : sg.length ≤ 3
  sht : M14.Sht sg.length R k
theorem Ok.rowlt {sg : List Nat} {R : List (List Nat)} {k : List Bool} (h : Ok sg R k) {p : Nat} (hp : p < R.length) : ∀ g ∈ M14.row R p, g < 40 := fun g hg => Nat.lt_of_lt_of_le (h.sht.val p hp g hg) h.sht.few
theorem Ok.words_sgn {sg : List Nat} {R : List (List Nat)} {k : List Bool} (h : Ok sg R k) : ∀ ws ∈ allW sg R k, ∀ w ∈ ws, ∀ c ∈ w, Sgn c := by
  intro ws hws
  unfold allW at hws
  rcases List.mem_cons.mp hws with rfl | hws
  · intro w hw
    simp only [List.mem_cons, List.not_mem_nil, or_false] at hw
    rcases hw with rfl | rfl
    · intro c hc; simp [wLet] at hc; unfold Sgn; omega
    · exact fun c hc => .inl (h.az c hc)
  · obtain ⟨p, hp, rfl⟩ := List.mem_map.mp hws
    have hp := List.mem_range.mp hp
    have := h.sht.few
    exact M90.words_sgn (by omega) fun g hg => by have := h.rowlt hp g hg; omega
theorem Ok.split {sg : List Nat} {R : List (List Nat)} {k : List Bool} (h : Ok sg R k) : TL.spl [10] 0 [] (text sg R k) = rows sg R k ++ [[]] := by
  unfold text
  rw [flat_join]
  refine TL.spl_join (by simp) fun l hl hc => ?_
  rcases List.mem_append.mp hl with hl | hl
  · unfold rows at hl
    obtain ⟨ws, hws, rfl⟩ := List.mem_map.mp hl
    rcases jn_mem hc with e | ⟨w, hw, hc⟩
    · exact absurd e (by decide)
    · have := h.words_sgn ws hws w hw 10 hc
      unfold Sgn at this
      omega
  · rw [List.mem_singleton.mp hl] at hc
    exact nomatch hc
theorem flat_len (m : Nat) : ∀ ls : List (List Nat), (∀ l ∈ ls, l.length ≤ m) → (ls.map endd).flatten.length ≤ ls.length * (m + 1)
  | [], _ => by simp
  | l :: ls, h => by
    have h1 := h l List.mem_cons_self
    have h2 := flat_len m ls fun l hl => h l (List.mem_cons_of_mem _ hl)
    rw [List.map_cons, List.flatten_cons, List.length_append, List.length_cons, Nat.add_mul]
    unfold endd at *
    rw [List.length_append, List.length_singleton]
    omega
end M90
namespace Lw
open PySem PySem.Spec PyProof.Rows L3
open L2 hiding del del_same del_ne
def wSum : List Nat := [115, 117, 109]
def wPro : List Nat := [112, 114, 111, 100, 117, 99, 116]
def sAll (sg : List Nat) (kp : List M23.Pd) : List (List (List Nat)) := [wSum, sg] :: kp.map fun p => wPro :: p
def sRows (sg : List Nat) (kp : List M23.Pd) : List (List Nat) := (sAll sg kp).map M90.jn
def sText (sg : List Nat) (kp : List M23.Pd) : List Nat := ((sRows sg kp).map M90.endd).flatten
/-- a sign of a word: a small letter or a star -/
def SgnP (c : Nat) : Prop := (97 ≤ c ∧ c ≤ 122) ∨ c = 42
structure SOk (sg : List Nat) (kp : List M23.Pd) : Prop where
  lets : Lets sg
  few : kp.length ≤ 20
  pd : ∀ p ∈ kp, PdOk sg p ∧ p.length ≤ 20
theorem PcOk.sgn {sg x : List Nat} (hl : Lets sg) (h : PcOk sg x) : ∀ c ∈ x, SgnP c := by
  intro c hc
  rcases h with ⟨d, hd, rfl⟩ | ⟨l, _, _, h, rfl⟩
  · rw [List.mem_singleton.mp hc]; exact .inl (hl.az d hd)
  · rcases List.mem_append.mp hc with hc | hc
    · exact .inl (hl.az c (h c hc))
    · exact .inr (List.mem_singleton.mp hc)
theorem SOk.sgn {sg : List Nat} {kp : List M23.Pd} (h : SOk sg kp) : ∀ ws ∈ sAll sg kp, ∀ w ∈ ws, ∀ c ∈ w, SgnP c := by
  intro ws hws
  unfold sAll at hws
  rcases List.mem_cons.mp hws with rfl | hws
  · intro w hw
    simp only [List.mem_cons, List.not_mem_nil, or_false] at hw
    rcases hw with rfl | rfl
    · intro c hc; simp [wSum] at hc; unfold SgnP; omega
    · exact fun c hc => .inl (h.lets.az c hc)
  · obtain ⟨p, hp, rfl⟩ := List.mem_map.mp hws
    intro w hw
    rcases List.mem_cons.mp hw with rfl | hw
    · intro c hc; simp [wPro] at hc; unfold SgnP; omega
    · exact ((h.pd p hp).1 w hw).sgn h.lets
theorem SOk.words {sg : List Nat} {kp : List M23.Pd} (h : SOk sg kp) : ∀ ws ∈ sAll sg kp, ws ≠ [] ∧ ws.length ≤ 21 ∧ ∀ w ∈ ws, w.length ≤ 7 := by
  intro ws hws
  unfold sAll at hws
  rcases List.mem_cons.mp hws with rfl | hws
  · refine ⟨List.cons_ne_nil _ _, by simp, fun w hw => ?_⟩
    simp only [List.mem_cons, List.not_mem_nil, or_false] at hw
    rcases hw with rfl | rfl
    · decide
    · have := h.lets.few; omega
  · obtain ⟨p, hp, rfl⟩ := List.mem_map.mp hws
    obtain ⟨h1, h2⟩ := h.pd p hp
    refine ⟨List.cons_ne_nil _ _, by rw [List.length_cons]; omega, fun w hw => ?_⟩
    rcases List.mem_cons.mp hw with rfl | hw
    · decide
    · have := (h1 w hw).len h.lets; omega
theorem SOk.row {sg : List Nat} {kp : List M23.Pd} (h : SOk sg kp) : ∀ l ∈ sRows sg kp, l.length ≤ 168 := by
  intro l hl
  unfold sRows at hl
  obtain ⟨ws, hws, rfl⟩ := List.mem_map.mp hl
  obtain ⟨_, h1, h2⟩ := h.words ws hws
  have h3 := M90.jn_len ws 7 h2
  omega
theorem sRows_len (sg : List Nat) (kp : List M23.Pd) : (sRows sg kp).length = kp.length + 1 := by
  unfold sRows sAll
  simp
theorem SOk.text {sg : List Nat} {kp : List M23.Pd} (h : SOk sg kp) : (sText sg kp).length ≤ 3549 := by
  have h1 := M90.flat_len 168 (sRows sg kp) h.row
  rw [sRows_len] at h1
  have := h.few
  unfold sText
  omega
theorem SOk.asc {sg : List Nat} {kp : List M23.Pd} (h : SOk sg kp) : ∀ c ∈ sText sg kp, c = 10 ∨ c = 32 ∨ SgnP c := by
  intro c hc
  unfold sText at hc
  obtain ⟨l1, hl1, hc⟩ := List.mem_flatten.mp hc
  obtain ⟨l, hl, rfl⟩ := List.mem_map.mp hl1
  clear hl1
  unfold M90.endd at hc
  rcases List.mem_append.mp hc with hc | hc
  · unfold sRows at hl
    obtain ⟨ws, hws, rfl⟩ := List.mem_map.mp hl
    rcases M90.jn_mem hc with e | ⟨w, hw, hc⟩
    · exact .inr (.inl e)
    · exact .inr (.inr (h.sgn ws hws w hw c hc))
  · exact .inl (List.mem_singleton.mp hc)
theorem SOk.split {sg : List Nat} {kp : List M23.Pd} (h : SOk sg kp) : TL.spl [10] 0 [] (sText sg kp) = sRows sg kp ++ [[]] := by
  unfold sText
  rw [M90.flat_join]
  refine TL.spl_join (by simp) fun l hl hc => ?_
  rcases List.mem_append.mp hl with hl | hl
  · unfold sRows at hl
    obtain ⟨ws, hws, rfl⟩ := List.mem_map.mp hl
    rcases M90.jn_mem hc with e | ⟨w, hw, hc⟩
    · exact absurd e (by decide)
    · have := h.sgn ws hws w hw 10 hc
      unfold SgnP at this
      omega
  · rw [List.mem_singleton.mp hl] at hc
    exact nomatch hc
theorem join_w (ws : List (List Nat)) : Txt.join (" " : Str) (ws.map tS) = tS (M90.jn ws) := SX.join_S [32] ws
theorem sum_len (m : Nat) : ∀ ws : List (List Nat), (∀ w ∈ ws, w.length ≤ m) → ((ws.map tS).map (·.length)).sum ≤ ws.length * m
  | [], _ => by simp
  | w :: ws, h => by
    have h1 := h w List.mem_cons_self
    have h2 := sum_len m ws fun w hw => h w (List.mem_cons_of_mem _ hw)
    have h3 : (tS w).length = w.length := SX.S_len w
    rw [List.map_cons, List.map_cons, List.sum_cons, List.length_cons, Nat.add_mul, h3]
    omega
theorem map_tx (ws : List (List Nat)) : (ws.map tS).map V.str = ws.map tx := by rw [List.map_map]; rfl
section
variable {P : Program} {w : World} {K : PySem.W.Frag} {mg : Str → Option Value} {base : Heap}
def spLineOf (K : PySem.W.Frag) : Sp := fun vs H Q _ => ∃ (p : Addr) (ws : List (List Nat)), vs = [.ref p] ∧ SqL K H p (ws.map tx) ∧ (∀ a ∈ ws, a.length ≤ 40) ∧ ws.length ≤ 50 ∧ ∀ H', Same H H' → Q (tx (M90.endd (M90.jn ws))) H'
theorem ok_line_of (T : All K mg) : FnOk P w K mg base CX0 1 T.f_line_of T.d_line_of ["words"] (spLineOf K) := by
  refine T.line_of.F.ok sc_line_of (fun vs H Q E h => ?_) (fun cdv A outer s H vs Q E hr h => ?_)
  · obtain ⟨p, ws, rfl, _⟩ := h
    rfl
  · obtain ⟨p, ws, rfl, hS, hw, hz, q⟩ := h
    refine ⟨_, pss_one (ps_ret (pe_op op_addT (pe_join pe_str (pe_lc (own := [("word", 1)]) (g := gName 1) (tt := tYes) rfl sc_line_of.nd (pi_list (pv 0))
          (blkOk_by (own := [("word", 1)]) (N := ["words", "word"]) (sc := defScope s_line_of) (by decide +kernel))
          (fun _ _ _ _ _ => pg_name (i := 1) sc_line_of.nd rfl (by first | exact Or.inl rfl | exact Or.inr rfl)) (fun _ _ _ _ _ => pts_nil)
          (fun _ _ _ _ _ => (pe_callTy SkE.call_str_str (by rfl) T.b_str (show bootBuiltins "str" = some (.type "str") by decide +kernel) (pa_cons (pv 1) pa_nil))))) pe_str)), ?_⟩
    refine ⟨⟨_, rfl⟩, _, rfl, p, rfl, ⟨_, hS⟩, fun D nD => ?_⟩
    refine lc_gen (walk_list (xs := ws.map tx)) (Same H) (fun i acc => acc = (ws.take i).map tx) (sz (by rw [List.length_map]; omega)) (fun i acc e => by rw [e, List.length_map, List.length_take]; omega) rfl (same_upd nD) (fun _ _ h => same_up h nD) (fun _ h => sq_same hS h) (fun i x H1 H2 acc C N hi rs hD ha y c nn => ?_) (fun H1 ys s1 hD ha => ?_)
    · obtain ⟨rfl, y⟩ := y
      rw [List.getElem?_map] at y
      obtain ⟨a, ha1, rfl⟩ := Option.map_eq_some_iff.mp y
      refine ⟨rfl, yes_te ⟨_, rfl, _, rfl, c _ _ rs hD ?_⟩⟩
      rw [ha, List.take_add_one, ha1, List.map_append]
      rfl
    subst ha
    rw [List.length_map, List.take_length] at hD
    have h1 := sum_len 40 ws hw
    have h2 := M90.jn_len ws 40 hw
    refine ⟨(" " : Str), D, ws.map tS, rfl, rfl, .inl (.inl (.inl (by rw [map_tx]; exact hD))), ?_, ?_⟩
    · rw [List.length_map, show ((" " : Str)).length = 1 from rfl]
      omega
    · rw [join_w]
      refine ⟨M90.jn ws, [10], rfl, rfl, ?_, q _ s1⟩
      rw [sizeLine_eq, List.length_singleton]
      omega
abbrev sL (sg : List Nat) (kp : List M23.Pd) : List (List Nat) := (sRows sg kp).map M90.endd
def spSLines (K : PySem.W.Frag) (C : Addr) : Sp := fun vs H Q _ => ∃ (a : Addr) (sg : List Nat) (kp : List M23.Pd), vs = [.ref a] ∧ SumO C K H a sg kp ∧ SOk sg kp ∧ ∀ H' p, Same H H' → H' p = some (.lst ((sL sg kp).map tx)) → Q (.ref p) H'
theorem ok_sum_lines (T : All K mg) : FnOk P w K mg base CX0 2 T.f_sum_lines T.d_sum_lines ["entry"] (spSLines K T.C_Sum) := by
  refine T.sum_lines.F.ok sc_sum_lines (fun vs H Q E h => ?_) (fun cdv A outer s H vs Q E hr h => ?_)
  · obtain ⟨a, sg, kp, rfl, _⟩ := h
    rfl
  · obtain ⟨a, sg, kp, rfl, hM, hO, q⟩ := h
    obtain ⟨dx, t, hat, hdp⟩ := hM.at_
    obtain ⟨bs, hSq, hbs, hpr⟩ := dpT_at hdp
    refine ⟨_, pss_cons (ps_set (i := 1) sc_sum_lines.nd rfl (by first | exact Or.inl rfl | exact Or.inr rfl) (pe_lst (pa_cons (pe_call (ok_line_of T) (hr.mono (by decide)) (by rfl) T.line_of.g T.line_of.F.kp T.line_of.b .nil pass0 (pa_cons (pe_lst (pa_cons pe_str (pa_cons (pe_fld (pv 0) rfl) pa_nil))) pa_nil)) pa_nil)))
      (pss_one (ps_ret (pe_op op_cat (pv 1) (pe_lc (own := [("product", 2)]) (g := gName 2) (tt := tYes) rfl sc_sum_lines.nd (pi_tup (pe_fld (pv 0) rfl))
          (blkOk_by (own := [("product", 2)]) (N := ["entry", "found", "product"]) (sc := defScope s_sum_lines) (by decide +kernel))
          (fun _ _ _ _ _ => pg_name (i := 2) sc_sum_lines.nd rfl (by first | exact Or.inl rfl | exact Or.inr rfl)) (fun _ _ _ _ _ => pts_nil)
          (fun _ _ _ _ _ => (pe_call (ok_line_of T) (hr.mono (by decide)) (by rfl) T.line_of.g T.line_of.F.kp T.line_of.b .nil pass0 (pa_cons (pe_op op_cat (pe_lst (pa_cons pe_str pa_nil)) (pe_callTy (call_list_ofK (K := K) rfl) (by rfl) T.b_list PyProof.Rows.boot_list (pa_cons (pv 2) pa_nil))) pa_nil))))))), ?_⟩
    have hfew := hO.few
    have hbl : bs.length = kp.length := by rw [← hbs, List.length_map]
    refine ⟨_, rfl, a, T.C_Sum, dx, _, _, rfl, hat, T.cl_Sum, T.n_Sum_own_letters, rfl, by show 2 ≤ sizeLine; decide, fun p0 n0 => ?_⟩
    have s0 := same_upd (o := .lst [tx wSum, tx sg]) n0
    refine ⟨p0, [wSum, sg], rfl, .inl (.inl upd_same), fun a ha => ?_, by show 2 ≤ 50; decide, fun H1 s1 => ?_⟩
    · simp only [List.mem_cons, List.not_mem_nil, or_false] at ha
      rcases ha with rfl | rfl
      · decide
      · have := hO.lets.few; omega
    refine ⟨by show 1 ≤ sizeLine; decide, fun D nD => ?_⟩
    have s01 := s0.trans s1
    have sD : Same H (upd H1 D (.lst [tx (M90.endd (M90.jn [wSum, sg]))])) := same_up s01 (s01.free nD)
    have hD0 := upd_same (H := H1) (a := D) (o := .lst [tx (M90.endd (M90.jn [wSum, sg]))])
    generalize upd H1 D (.lst [tx (M90.endd (M90.jn [wSum, sg]))]) = H2 at *
    refine ⟨_, rfl, _, rfl, a, T.C_Sum, dx, _, _, rfl, sD _ _ hat, T.cl_Sum, T.n_Sum_own_products, rfl, t, rfl, ⟨_, sqT_same hSq sD⟩, fun D2 nD2 => ?_⟩
    refine lc_gen (walk_tup (xs := rfs bs)) (Same H2) (fun i acc => acc = ((kp.take i).map fun p => M90.endd (M90.jn (wPro :: p))).map tx) (sz (by unfold rfs; rw [List.length_map]; omega)) (fun i acc e => by rw [e, List.length_map, List.length_map, List.length_take]; omega) rfl (same_upd nD2) (fun _ _ h => same_up h nD2) (fun _ h => sqT_same hSq (sD.trans h)) (fun i x H3 H4 acc C N hi rs hD ha y c nn => ?_) (fun H3 ys s3 hD2 ha => ?_)
    · obtain ⟨rfl, y⟩ := y
      rw [show (rfs bs)[i]? = (bs[i]?).map fun b => V.ref b.1 from List.getElem?_map] at y
      obtain ⟨b, hb, rfl⟩ := Option.map_eq_some_iff.mp y
      have hkb : kp[i]? = some b.2 := by rw [← hbs, List.getElem?_map, hb]; rfl
      have hpt := hpr b (List.mem_of_getElem? hb)
      obtain ⟨hok, hlen⟩ := hO.pd b.2 (List.mem_of_getElem? hkb)
      refine ⟨rfl, yes_te ⟨by show 1 ≤ sizeLine; decide, fun p2 n2 => ?_⟩⟩
      have s2 := same_upd (o := .lst [tx wPro]) n2
      refine ⟨_, rfl, b.1, _, rfl, .inr (sqT_same hpt (sD.trans (rs.trans s2))), fun p3 n3 => ?_⟩
      have s3 := same_upd (o := .lst (b.2.map tx)) n3
      refine ⟨p2, p3, _, _, rfl, rfl, s3 _ _ upd_same, upd_same, by rw [List.length_map, sizeLine_eq]; show 1 + _ ≤ _; omega, fun p4 n4 => ?_⟩
      have s4 := same_upd (o := .lst ([tx wPro] ++ b.2.map tx)) n4
      refine ⟨p4, wPro :: b.2, rfl, .inl (.inl upd_same), fun a ha => ?_, by rw [List.length_cons]; omega, fun H5 s5 => ?_⟩
      · rcases List.mem_cons.mp ha with rfl | ha
        · decide
        · have := (hok a ha).len hO.lets; omega
      have sAll := s2.trans (s3.trans (s4.trans s5))
      refine c _ _ (rs.trans sAll) (sAll _ _ hD) ?_
      rw [ha, List.take_add_one, hkb, List.map_append, List.map_append]
      rfl
    · have hl : (rfs bs).length = kp.length := by unfold rfs; rw [List.length_map]; exact hbl
      rw [hl, List.take_length] at ha
      subst ha
      refine ⟨D, D2, _, _, rfl, rfl, s3 _ _ hD0, hD2, by rw [List.length_map, List.length_map, sizeLine_eq]; show 1 + _ ≤ _; omega, fun p5 n5 => ?_⟩
      refine q _ p5 (sD.trans (s3.trans (same_upd n5))) ?_
      rw [upd_same]
      unfold sL sRows sAll
      rw [List.map_cons, List.map_cons, List.map_map, List.map_cons, List.map_map, List.map_map, List.map_map]
      rfl
end
end Lw
namespace Lw
open PySem PySem.Spec PyProof.Rows L3
open L2 hiding del del_same del_ne
theorem join_0 : ∀ ls : List (List Nat), TL.joinL [] ls = ls.flatten
  | [] => rfl
  | [l] => (List.append_nil l).symm
  | l :: m :: r => by
    show l ++ ([] ++ TL.joinL [] (m :: r)) = _
    rw [join_0 (m :: r)]
    rfl
theorem join_e (ls : List (List Nat)) : Txt.join ("" : Str) (ls.map tS) = tS ls.flatten := (SX.join_S [] ls).trans (congrArg tS (join_0 ls))
section
variable {P : Program} {w : World} {K : PySem.W.Frag} {mg : Str → Option Value} {base : Heap}
def spTextOf (K : PySem.W.Frag) (C : Addr) : Sp := fun vs H Q _ => ∃ (a : Addr) (sg : List Nat) (kp : List M23.Pd), vs = [.ref a] ∧ SumO C K H a sg kp ∧ SOk sg kp ∧ ∀ H', Same H H' → Q (tx (sText sg kp)) H'
theorem ok_text_of (T : All K mg) : FnOk P w K mg base CX0 3 T.f_text_of T.d_text_of ["entry"] (spTextOf K T.C_Sum) := by
  refine T.text_of.F.ok sc_text_of (fun vs H Q E h => ?_) (fun cdv A outer s H vs Q E hr h => ?_)
  · obtain ⟨a, sg, kp, rfl, _⟩ := h
    rfl
  · obtain ⟨a, sg, kp, rfl, hM, hO, q⟩ := h
    refine ⟨_, pss_one (ps_ret (pe_join pe_str (pe_ifExp (pt_val (pe_callB call_isi (by rfl) T.b_isinstance boot_isinstance (pa_cons (pv 0) (pa_cons (pe_glob (v := .ref T.C_Sum) rfl T.g_Sum rfl) pa_nil)))) (pe_call (ok_sum_lines T) (hr.mono (by decide)) (by rfl) T.sum_lines.g T.sum_lines.F.kp T.sum_lines.b .nil pass0 (pa_cons (pv 0) pa_nil)) pe_never))), ?_⟩
    refine ⟨⟨_, rfl⟩, _, rfl, _, .ref T.C_Sum, .ref T.C_Sum, .ref T.C_Sum, true, rfl, .own _, ty_sum T hM, kit_own T, true, rfl, iteT ?_⟩
    refine ⟨_, rfl, a, sg, kp, rfl, hM, hO, fun H1 p s1 hp => ?_⟩
    have h1 := hO.row
    have h2 : ∀ l ∈ sL sg kp, l.length ≤ 169 := fun l hl => by
      obtain ⟨m, hm, rfl⟩ := List.mem_map.mp hl
      have := h1 m hm
      unfold M90.endd
      simp
      omega
    have h3 := sum_len 169 (sL sg kp) h2
    have h4 : (sL sg kp).length ≤ 21 := by
      rw [List.length_map, sRows_len]
      have := hO.few
      omega
    refine ⟨("" : Str), p, (sL sg kp).map tS, rfl, rfl, .inl (.inl (.inl (by rw [map_tx]; exact hp))), ?_, ?_⟩
    · rw [List.length_map, show (("" : Str)).length = 0 from rfl]
      omega
    · rw [join_e]
      exact q _ s1
def spBytesOf (K : PySem.W.Frag) (C : Addr) : Sp := fun vs H Q _ => ∃ (a : Addr) (sg : List Nat) (kp : List M23.Pd), vs = [.ref a] ∧ SumO C K H a sg kp ∧ SOk sg kp ∧ ∀ H' b, Same H H' → BytL b (sText sg kp) → b.size ≤ 3549 → Q (.byt b) H'
theorem ok_bytes_of (T : All K mg) : FnOk P w K mg base CX0 4 T.f_bytes_of T.d_bytes_of ["entry"] (spBytesOf K T.C_Sum) := by
  refine T.bytes_of.F.ok sc_bytes_of (fun vs H Q E h => ?_) (fun cdv A outer s H vs Q E hr h => ?_)
  · obtain ⟨a, sg, kp, rfl, _⟩ := h
    rfl
  · obtain ⟨a, sg, kp, rfl, hM, hO, q⟩ := h
    refine ⟨_, pss_one (ps_ret (pe_bm0 PySem.F.plainAttrs_str PySem.F.slot_str_encode PySem.F.type_str_encode mt_encode (pe_call (ok_text_of T) (hr.mono (by decide)) (by rfl) T.text_of.g T.text_of.F.kp T.text_of.b .nil pass0 (pa_cons (pv 0) pa_nil)))), ?_⟩
    refine ⟨_, rfl, a, sg, kp, rfl, hM, hO, fun H1 s1 => ⟨rfl, ?_⟩⟩
    have h1 := hO.asc
    have h2 := hO.text
    refine ⟨_, rfl, rfl, fun c hc => ?_, by omega, fun b hb hz => q _ b s1 hb (by omega)⟩
    have := h1 c hc
    unfold SgnP at this
    omega
end
end Lw
namespace L3
open PySem PySem.Spec PyProof.Rows L2
def rGeD (K : PySem.W.Frag) : R2 := fun x y H Q => ∃ d e, Dp K H x d ∧ Dp K H y e ∧ PySem.W.alike d e = true ∧ d ≠ .none ∧ d.depth ≤ 60 ∧ Q (.bl (!PySem.W.dataLt d e)) H
theorem op_geD {X : Cx} (hu : X.A.units + 64 < cLine) : OpR X (compareOp .GtE) (rGeD X.K) := by
  intro pins s σ H x y v u Q I rx ry h
  obtain ⟨d, e, hd, he, ha, hn, hz, q⟩ := h
  obtain ⟨⟨as, ra⟩, _⟩ := rk_of I (.data hd) _ rx
  obtain ⟨⟨bs, rb⟩, _⟩ := rk_of I (.data he) _ ry
  exact PySem.W.ge_data ra rb ha hn (by omega) ⟨.bl _, H, I, rfl, q⟩
end L3
namespace Lw
open PySem PySem.Spec PyProof.Rows L3
open L2 hiding del del_same del_ne
def hide (l : List Addr) (H : Hp) : Hp := fun b => if b ∈ l then none else H b
theorem hide_out {l : List Addr} {H : Hp} {b : Addr} (h : b ∉ l) : hide l H b = H b := if_neg h
theorem hide_some {l : List Addr} {H : Hp} {b : Addr} {o : HO} (h : hide l H b = some o) : b ∉ l ∧ H b = some o := by
  unfold hide at h
  by_cases m : b ∈ l
  · rw [if_pos m] at h; cases h
  · rw [if_neg m] at h; exact ⟨m, h⟩
theorem hide_le {l : List Addr} {H : Hp} : Same (hide l H) H := fun b o e => (hide_some e).2
theorem hide_mono {l : List Addr} {H H' : Hp} (s : Same H H') : Same (hide l H) (hide l H') := fun b o e => by
  obtain ⟨m, e⟩ := hide_some e
  rw [hide_out m]
  exact s _ _ e
theorem hide_upd {l : List Addr} {H : Hp} {a : Addr} {o : HO} (h : a ∈ l) : hide l (upd H a o) = hide l H := by
  funext b
  unfold hide
  by_cases m : b ∈ l
  · rw [if_pos m, if_pos m]
  · rw [if_neg m, if_neg m, upd_ne (fun e => m (by rw [e]; exact h))]
/-- what is there and hidden from nobody stays where all but l stays -/
theorem hide_keep {l : List Addr} {H H' : Hp} (s : Same (hide l H) (hide l H')) {b : Addr} {o : HO} (h : H b = some o) (m : b ∉ l) : H' b = some o := by
  have := s b o (by rw [hide_out m]; exact h)
  exact (hide_some this).2
/-- a sum's products: kept -/
structure KOk (sg : List Nat) (kp : List M23.Pd) : Prop where
  ok : SOk sg kp
  all : M23.AllOk kp
  kk : M23.kept kp = kp
  nod : kp.Nodup
  inc : ∀ (i j : Nat) (p q : M23.Pd), i < j → kp[i]? = some p → kp[j]? = some q → M23.ple q p = false
  apart : ∀ p ∈ kp, ∀ q ∈ kp, p ≠ q → M23.run q p = none
  red : ∀ p ∈ kp, M23.redOf p = p
theorem kok_of {sg : List Nat} {ps : List M23.Pd} (h : M23.AllOk ps) (ho : SOk sg (M23.kept ps)) : KOk sg (M23.kept ps) := by
  have hsub : List.Sublist (M23.kept ps) (M23.canon (ps.map M23.redOf)) := List.filter_sublist
  have hnod := (M23.canon_nodup (ps.map M23.redOf)).sublist hsub
  have hsort := (M23.canon_sorted (ps.map M23.redOf)).sublist hsub
  refine ⟨ho, M23.kept_ok h, M23.kept_kept h, hnod, fun i j p q hij hp hq => ?_, fun p hp q hq hne => ?_, fun p hp => M23.red_self (M23.kept_good h p hp)⟩
  · obtain ⟨hi, ep⟩ := List.getElem?_eq_some_iff.mp hp
    obtain ⟨hj, eq⟩ := List.getElem?_eq_some_iff.mp hq
    have h1 := List.pairwise_iff_getElem.mp hsort i j hi hj hij
    have h2 := List.pairwise_iff_getElem.mp hnod i j hi hj hij
    rw [ep, eq] at h1 h2
    rw [← Bool.not_eq_true]
    intro z
    exact h2 (M23.ple_anti h1 z)
  · have h1 := (M23.maxs_mem.mp hp).2 q (M23.maxs_mem.mp hq).1 hne.symm
    exact M23.none_iff.mpr h1
theorem cutLast (l : List V) (a : V) : cutV (l ++ [a]) none (some (-1)) = l := by
  unfold cutV
  have e : HT.sIx (l ++ [a]).length (l ++ [a]).length (some (-1)) = l.length := by
    show (if ((-1 : Int) < 0) then ((-1 : Int) + ((l ++ [a]).length : Int)).toNat else min (-1 : Int).toNat (l ++ [a]).length) = _
    rw [if_pos (by decide), List.length_append, List.length_singleton]
    omega
  rw [e, HT.sIx_none, List.drop_zero, Nat.sub_zero, List.take_append_of_le_length (Nat.le_refl _), List.take_length]
theorem atLast (l : List V) (a : V) : atI (l ++ [a]) (-1) = some a := by
  have e : ixN (l ++ [a]).length (-1) = some l.length := by
    unfold ixN
    rw [if_neg (by decide), List.length_append, List.length_singleton]
    rw [if_pos (by omega)]
    congr 1
    omega
  unfold atI
  rw [e]
  show (l ++ [a])[l.length]? = some a
  simp
theorem or_to {a c : TT} {t u : TS} {D : Ends} {σ : L2.St} {H : Hp} (R : Hp → Prop) (ha : ∀ Q : Bool → Hp → Prop, (∀ H1, R H1 → Q false H1) → a σ H Q) (k : ∀ H1, R H1 → tIfS c t u D σ H1) : tIfS (tOr a c) t u D σ H :=
  ha _ fun H1 r => iteF (k H1 r)
theorem alike_strs : ∀ (p q : List Str), PySem.W.alikeAll (p.map PyData.str) (q.map PyData.str) = true
  | [], _ => by cases ‹List Str› <;> rfl
  | a :: p, [] => rfl
  | a :: p, b :: q => by
    show (PySem.W.alike (.str a) (.str b) && PySem.W.alikeAll (p.map PyData.str) (q.map PyData.str)) = true
    rw [alike_strs p q]
    rfl
theorem sText_split {sg : List Nat} {kp : List M23.Pd} (h : SOk sg kp) : (Txt.split (tS (sText sg kp)) ("\n" : Str)).map V.str = (sRows sg kp).map tx ++ [tx []] := by
  have e := SX.split_S (a := sText sg kp) (b := [10]) (by decide) (by decide)
  rw [h.split] at e
  refine (congrArg (fun z : List Str => z.map V.str) e).trans ?_
  rw [List.map_map, List.map_append]
  rfl
theorem sRow_split {sg : List Nat} {kp : List M23.Pd} (h : SOk sg kp) {n : Nat} {l : List Nat} (hl : (sRows sg kp)[n]? = some l) : ∃ ws, (sAll sg kp)[n]? = some ws ∧ l = M90.jn ws ∧ (Txt.split (tS l) (" " : Str)).map V.str = ws.map tx ∧ l.length ≤ 168 := by
  have hl2 := hl
  unfold sRows at hl
  rw [List.getElem?_map] at hl
  obtain ⟨ws, h1, rfl⟩ := Option.map_eq_some_iff.mp hl
  have hm := List.mem_of_getElem? h1
  refine ⟨ws, h1, rfl, ?_, h.row _ (List.mem_of_getElem? hl2)⟩
  have e := SX.split_S (a := M90.jn ws) (b := [32]) (by decide) (by decide)
  have e2 : TL.spl [32] 0 [] (M90.jn ws) = ws := TL.spl_join (h.words ws hm).1 fun w hw hc => by
    have := h.sgn ws hm w hw 32 hc
    unfold SgnP at this
    omega
  rw [e2] at e
  refine (congrArg (fun z : List Str => z.map V.str) e).trans ?_
  exact map_tx ws
theorem atI_0 {v : V} {r : List V} : atI (v :: r) 0 = some v := atI_nat (j := 0) rfl
theorem atI_1 {a v : V} {r : List V} : atI (a :: v :: r) 1 = some v := atI_nat (j := 1) rfl
/-- the reader of a sum, behind n rows -/
structure SdS (K : PySem.W.Frag) (C : Addr) (H : Hp) (x dx r : Addr) (sg : List Nat) (kp : List M23.Pd) (n : Nat) : Prop where
  ob : H x = some (.ins C dx [("own_letters", if n = 0 then .non else tx sg), ("own_told", .ref r)])
  xr : x ≠ r
  ro : ∃ cs : List AP, H r = some (.lst (rfs cs)) ∧ cs.map Prod.snd = kp.take (n - 1) ∧ Prods K (hide [x, r] H) cs
theorem SdS.same {K : PySem.W.Frag} {C : Addr} {H H' : Hp} {x dx r : Addr} {sg : List Nat} {kp : List M23.Pd} {n : Nat} (h : SdS K C H x dx r sg kp n) (s : Same H H') : SdS K C H' x dx r sg kp n := by
  obtain ⟨a, b, ⟨cs, e1, e2, e3⟩⟩ := h
  exact ⟨s _ _ a, b, ⟨cs, s _ _ e1, e2, e3.same (hide_mono s)⟩⟩
section
variable {P : Program} {w : World} {K : PySem.W.Frag} {mg : Str → Option Value} {base : Heap}
def spSInit (K : PySem.W.Frag) (C : Addr) : Sp := fun vs H Q _ => ∃ (x dx : Addr), vs = [.ref x] ∧ H x = some (.ins C dx []) ∧ ∀ H' r, (∀ b o, H b = some o → b ≠ x → H' b = some o) → (∀ sg kp, SdS K C H' x dx r sg kp 0) → H r = none → Q .non H'
theorem ok_SumReader_init (T : All K mg) : FnOk P w K mg base CX0 1 T.f_SumReader_init T.d_SumReader_init ["self"] (spSInit K T.C_SumReader) := by
  refine T.SumReader_init.F.ok sc_SumReader_init (fun vs H Q E h => ?_) (fun cdv A outer s H vs Q E hr h => ?_)
  · obtain ⟨x, dx, rfl, _⟩ := h
    rfl
  · obtain ⟨x, dx, rfl, hx, q⟩ := h
    refine ⟨_, pss_cons (ps_fld (pv 0) pe_non rfl)
      (pss_one (ps_fld (pv 0) (pe_lst pa_nil) rfl)), ?_⟩
    refine ⟨_, rfl, x, T.C_SumReader, dx, [], rfl, hx, T.cl_SumReader, T.n_SumReader_own_letters, by decide, ?_⟩
    refine ⟨by show 0 ≤ sizeLine; decide, fun r n1 => ?_⟩
    have hxr : x ≠ r := fun e => by rw [← e, upd_same] at n1; cases n1
    have hrn : H r = none := by rw [upd_ne hxr.symm] at n1; exact n1
    refine ⟨_, rfl, x, T.C_SumReader, dx, _, rfl, by rw [upd_ne hxr, upd_same], T.cl_SumReader, T.n_SumReader_own_told, by show (1 : Nat) < 1000; decide, ?_⟩
    refine q _ r (fun b o e nb => ?_) (fun sg kp => ⟨upd_same, hxr, ⟨[], ?_, rfl, fun b h => nomatch h⟩⟩) hrn
    · rw [upd_ne nb, upd_ne (ne_of_none e hrn), upd_ne nb]
      exact e
    · rw [upd_ne hxr.symm, upd_same]
      rfl
def spTakeP (K : PySem.W.Frag) (C : Addr) : Sp := fun vs H Q _ => ∃ (x dx r p : Addr) (sg : List Nat) (kp : List M23.Pd) (n : Nat) (pd : M23.Pd), vs = [.ref x, .ref p] ∧ SdS K C H x dx r sg kp (n + 1) ∧ KOk sg kp ∧ kp[n]? = some pd ∧ SqT K (hide [x, r] H) p (pd.map tx) ∧
  ∀ H', SdS K C H' x dx r sg kp (n + 2) → Same (hide [x, r] H) (hide [x, r] H') → Q (.bl true) H'
theorem ok_SumReader_take_product (T : All K mg) : FnOk P w K mg base CX0 6 T.f_SumReader_take_product T.d_SumReader_take_product ["self", "product"] (spTakeP K T.C_SumReader) := by
  refine T.SumReader_take_product.F.ok sc_SumReader_take_product (fun vs H Q E h => ?_) (fun cdv A outer s H vs Q E hr h => ?_)
  · obtain ⟨x, dx, r, p, sg, kp, n, pd, rfl, _⟩ := h
    rfl
  · obtain ⟨x, dx, r, p, sg, kp, n, pd, rfl, hR, hK, hpd, hS, qq⟩ := h
    refine ⟨_, pss_cons (ps_if (PW.pt (pw_or (pt_not (pt_val (pe_call (ok_is_product_over T) (hr.mono (by decide)) (by rfl) T.is_product_over.g T.is_product_over.F.kp T.is_product_over.b .nil pass0 (pa_cons (pe_fld (pv 0) rfl) (pa_cons (pv 1) pa_nil))))) (pw_or1 (pt_cmpR (op_neD (u64 hr)) (pe_call (ok_reduced_of T) (hr.mono (by decide)) (by rfl) T.reduced_of.g T.reduced_of.F.kp T.reduced_of.b .nil pass0 (pa_cons (pv 1) pa_nil)) (pv 1) (nomark _))))) (pss_one (ps_ret pe_bl)) pss_nil)
      (pss_cons (ps_if (PW.pt (pw_or (PW.pt (pw_and (pt_cmpR (op_neD (u64 hr)) (pe_fld (pv 0) rfl) (pe_lst pa_nil) (nomark _)) (pw_and1 (pt_cmpR (op_geD (u64 hr)) (pe_ix ix_list (pe_fld (pv 0) rfl) (pe_un un_neg pe_int) (fun _ _ => rfl)) (pv 1) (nomark _))))) (pw_or1 (pt_cmpR op_eq (pe_callB call_len_seq (by rfl) T.b_len PySem.boot_len (pa_cons (pe_fld (pv 0) rfl) pa_nil)) (ClX.pe_cval (pe_glob (v := .ref T.C_Sum) rfl T.g_Sum rfl)) (nomark _))))) (pss_one (ps_ret pe_bl)) pss_nil)
      (pss_cons (ps_expr (pe_bm PySem.F.plainAttrs_list PySem.F.slot_list_append PySem.F.type_list_append mt_append (pe_fld (pv 0) rfl) (pa_cons (pv 1) pa_nil)))
      (pss_one (ps_ret pe_bl)))), ?_⟩
    have hob : H x = some (.ins T.C_SumReader dx [("own_letters", tx sg), ("own_told", .ref r)]) := by
      have := hR.ob
      rwa [if_neg (by omega)] at this
    obtain ⟨cs, hrr, hcs, hpr⟩ := hR.ro
    have hcs : cs.map Prod.snd = kp.take n := hcs
    have hO := hK.ok
    have hfew := hO.few
    have hpm := List.mem_of_getElem? hpd
    obtain ⟨hok, hlen⟩ := hO.pd pd hpm
    have hn : n < kp.length := (List.getElem?_eq_some_iff.mp hpd).1
    have hcl : cs.length = n := by
      have := congrArg List.length hcs
      rw [List.length_map, List.length_take] at this
      omega
    have hS1 := sqT_same hS (hide_le (l := [x, r]) (H := H))
    have htx : ∀ y ∈ pd, TxOk y := fun y hy => (hok y hy).tx hO.lets
    refine ⟨_, rfl, x, T.C_SumReader, dx, _, _, rfl, hob, T.cl_SumReader, T.n_SumReader_own_letters, rfl, _, rfl, sg, .ref p, pd, rfl, hO.lets, hok, by omega, pd_dp hS1, fun H1 s1 => ⟨true, rfl, iteF ?_⟩⟩
    refine ⟨_, rfl, .ref p, pd, rfl, pd_dp (sqT_same hS1 s1), by omega, htx, fun H2 a2 s2 n2 ha2 => ?_⟩
    have s12 := s1.trans s2
    rw [hK.red pd hpm] at ha2
    have wP : SeqAt.shaped (M23.dP pd) = true := (wt_dP htx hlen).shaped (by decide)
    refine ⟨_, rfl, M23.dP pd, M23.dP pd, pd_dp (.inl (.inl ha2)), pd_dp (sqT_same hS1 s12), wP, wP, _, rfl, ite_f (by rw [eqv_dP]; simp) ?_⟩
    refine next_to ?_
    dsimp only
    refine seq_to (or_to (fun H' => Same H2 H') (fun Q' hQ' => ?_) (fun H5 s25 => ?_))
    · have hr2 := s12 _ _ hrr
      have hpr2 := (hpr.same hide_le).same s12
      have hfewc : Few (cs.map Prod.snd) := ⟨by rw [List.length_map]; omega, fun q hq => by
        rw [hcs] at hq
        obtain ⟨h1, h2⟩ := hO.pd q (List.mem_of_mem_take hq)
        exact ⟨h2, fun y hy => (h1 y hy).tx hO.lets⟩⟩
      refine ⟨_, rfl, x, T.C_SumReader, dx, _, _, rfl, s12 _ _ hob, T.cl_SumReader, T.n_SumReader_own_told, rfl, by show 0 ≤ sizeLine; decide, fun p4 n4 => ?_⟩
      have s4 := same_upd (o := .lst []) n4
      refine ⟨dPL (cs.map Prod.snd), .list [], .lst (.inl (.inl (s4 _ _ hr2))) (aps_dp (hpr2.same s4)), .lst (.inl (.inl upd_same)) .nil, (wt_dPL hfewc).shaped (by decide), by decide +kernel, _, rfl, ite2 (fun e => ?_) (fun e => hQ' _ s4)⟩
      rcases List.eq_nil_or_concat cs with h0 | ⟨cs0, c, h0⟩
      · subst h0
        exact absurd e (by decide +kernel)
      · have h0 : cs = cs0 ++ [c] := by rw [h0, List.concat_eq_append]
        subst h0
        have hc0 : cs0.length + 1 = n := by rw [List.length_append, List.length_singleton] at hcl; exact hcl
        have hkc : kp[cs0.length]? = some c.2 := by
          have h1 := congrArg (fun z : List M23.Pd => z[cs0.length]?) hcs
          rw [List.getElem?_take_of_lt (by omega), List.map_append, List.getElem?_append_right (by rw [List.length_map]; exact Nat.le_refl _), List.length_map, Nat.sub_self] at h1
          exact h1.symm
        have hlt : (!PySem.W.dataLt (M23.dP c.2) (M23.dP pd)) = false := by
          have := hK.inc cs0.length n c.2 pd (by omega) hkc hpd
          rw [M23.ple_eq] at this
          exact this
        have hpc := hpr2 c (List.mem_append_right _ (List.mem_singleton.mpr rfl))
        have eR : rfs (cs0 ++ [c]) = rfs cs0 ++ [.ref c.1] := by unfold rfs; rw [List.map_append]; rfl
        rw [eR] at hr2
        exact ⟨_, rfl, x, T.C_SumReader, dx, _, _, rfl, s4 _ _ (s12 _ _ hob), T.cl_SumReader, T.n_SumReader_own_told, rfl, 1, rfl, r, _, _, _, rfl, rfl, .inl (.inl (s4 _ _ hr2)), atLast _ _, _, rfl, M23.dP c.2, M23.dP pd, pd_dp (sqT_same hpc s4), pd_dp (sqT_same hS1 (s12.trans s4)), alike_strs _ _, (fun z => by cases z), Nat.le_trans (wt_dP (n := 20) ((hfewc.2 c.2 (by rw [List.map_append]; exact List.mem_append_right _ (List.mem_singleton.mpr rfl))).2) ((hfewc.2 c.2 (by rw [List.map_append]; exact List.mem_append_right _ (List.mem_singleton.mpr rfl))).1)).p (by decide), false, congrArg V.bl hlt, hQ' _ s4⟩
    · have s15 := s12.trans s25
      have hr5 := s15 _ _ hrr
      obtain ⟨tk, hcv⟩ := T.cv_Sum_MOST_PRODUCTS
      have hrl : (rfs cs).length = n := by unfold rfs; rw [List.length_map]; exact hcl
      refine ⟨_, rfl, x, T.C_SumReader, dx, _, _, rfl, s15 _ _ hob, T.cl_SumReader, T.n_SumReader_own_told, rfl, r, rfs cs, rfl, .inl (.inl (.inl hr5)), T.C_Sum, _, _, _, rfl, T.cr_Sum, hcv, rfl, _, rfl, ite_f (by rw [hrl]; simp; omega) ?_⟩
      refine ⟨_, rfl, x, T.C_SumReader, dx, _, _, rfl, s15 _ _ hob, T.cl_SumReader, T.n_SumReader_own_told, rfl, .inl ⟨rfl, _, .inl (.inl hr5)⟩, _, rfl, r, _, _, rfl, rfl, hr5, by rw [hrl, sizeLine_eq]; omega, ?_⟩
      have e6 : hide [x, r] (upd H5 r (.lst (rfs cs ++ [.ref p]))) = hide [x, r] H5 := hide_upd (by simp)
      refine qq _ ⟨?_, hR.xr, ⟨cs ++ [(p, pd)], ?_, ?_, fun b hb => ?_⟩⟩ ?_
      · rw [if_neg (by omega), upd_ne hR.xr]
        exact s15 _ _ hob
      · rw [upd_same]
        unfold rfs
        rw [List.map_append]
        rfl
      · rw [show n + 2 - 1 = n + 1 from rfl, List.take_add_one, hpd, List.map_append, hcs]
        rfl
      · rw [e6]
        rcases List.mem_append.mp hb with hb | hb
        · exact sqT_same (hpr b hb) (hide_mono s15)
        · rw [List.mem_singleton.mp hb]
          exact sqT_same hS (hide_mono s15)
      · rw [e6]
        exact hide_mono s15
end
end Lw
namespace Lw
open PySem PySem.Spec PyProof.Rows L3
open L2 hiding del del_same del_ne
theorem cutV_n (xs : List V) (m : Nat) : cutV xs none (some (m : Int)) = xs.take m := by
  unfold cutV
  rw [HT.sIx_none, HT.sIx_nat, List.drop_zero, Nat.sub_zero]
  rcases Nat.le_total m xs.length with h | h
  · rw [Nat.min_eq_left h]
  · rw [Nat.min_eq_right h, List.take_length, List.take_of_length_le h]
theorem any_rep (n : Nat) : (List.replicate n false).any id = false := by
  induction n with
  | zero => rfl
  | succ n ih => rw [List.replicate_succ, List.any_cons, ih]; rfl
theorem cutV_lo (xs : List V) (m : Nat) : cutV xs (some (m : Int)) none = xs.drop m := by
  unfold cutV
  rw [HT.sIx_none, HT.sIx_nat]
  rcases Nat.le_total m xs.length with h | h
  · rw [Nat.min_eq_left h, List.take_of_length_le (by rw [List.length_drop]; exact Nat.le_refl _)]
  · rw [Nat.min_eq_right h, List.drop_of_length_le (Nat.le_refl _), List.drop_of_length_le h]
    simp
section
variable {P : Program} {w : World} {K : PySem.W.Frag} {mg : Str → Option Value} {base : Heap}
/-- a new sum -/
def NewS (K : PySem.W.Frag) (C : Addr) (H : Hp) (Q : VK) (sg : List Nat) (kp : List M23.Pd) : Prop := ∀ H' x, Same H H' → H x = none → SumO C K H' x sg kp → Q (.ref x) H'
theorem make_s {C : Addr} {H : Hp} {sg : List Nat} {v : V} {ps : List M23.Pd} (hl : Lets sg) (hB : Bun K H v ps) (hok : ∀ p ∈ ps, PdOk sg p) (hf : ps.length ≤ 20) (hz : ∀ p ∈ ps, p.length ≤ 100) {x dx : Addr} (nx : H x = none) (ndx : H dx = none) {Qh : Hp → Prop} (q : ∀ H', Same H H' → SumO C K H' x sg (M23.kept ps) → Qh H') :
    spInit K C [.ref x, tx sg, v] (L2.upd (L2.upd H dx (.own x)) x (.ins C dx [])) (fun v H2 => v = .non ∧ Qh H2) E0 := by
  have sU : Same H (L2.upd (L2.upd H dx (.own x)) x (.ins C dx [])) := same_up (same_upd ndx) nx
  exact ⟨x, dx, sg, v, ps, rfl, upd_same, hl, hB.same sU, hok, hf, hz, fun H' hk' hM' => ⟨rfl, q H' (Same.made nx ndx hk') hM'⟩⟩
def spSumOf (K : PySem.W.Frag) (C : Addr) : Sp := fun vs H Q _ => ∃ (sg : List Nat) (l : Addr) (bs : List AP), vs = [tx sg, .ref l] ∧ Lets sg ∧ SqL K H l (rfs bs) ∧ Prods K H bs ∧ (∀ b ∈ bs, PdOk sg b.2 ∧ b.2.length ≤ 100) ∧ bs.length ≤ 20 ∧ NewS K C H Q sg (M23.kept (bs.map Prod.snd))
theorem ok_sum_of (T : All K mg) : FnOk P w K mg base CX0 10 T.f_sum_of T.d_sum_of ["letters", "products"] (spSumOf K T.C_Sum) := by
  refine T.sum_of.F.ok sc_sum_of (fun vs H Q E h => ?_) (fun cdv A outer s H vs Q E hr h => ?_)
  · obtain ⟨sg, l, bs, rfl, _⟩ := h
    rfl
  · obtain ⟨sg, l, bs, rfl, hl, hS, hpr, hok, hz, q⟩ := h
    refine ⟨_, pss_one (ps_ret (pe_make ⟨T.mk_Sum, T.Sum_init.m.at_, T.Sum_init.m.fn, T.kp_Sum⟩ (ok_Sum_init T) (hr.mono (by decide)) (by rfl) T.g_Sum T.Sum_init.b .nil pass0 (pa_cons (pv 0) (pa_cons (pe_callTy call_list_of (by rfl) T.b_list PyProof.Rows.boot_list (pa_cons (pv 1) pa_nil)) pa_nil)))), ?_⟩
    refine ⟨_, rfl, _, rfl, l, _, rfl, .inl hS, fun p np => ?_⟩
    have sp := same_upd (o := .lst (rfs bs)) np
    intro x dx nx ndx _
    refine make_s hl ⟨bs, sq_list (.inl (.inl upd_same)), rfl, hpr.same sp⟩ (fun p hp => ?_) (by rw [List.length_map]; exact hz) (fun p hp => ?_) nx ndx (fun H2 s2 hM => q _ _ (sp.trans s2) (sp.free nx) hM)
    · obtain ⟨b, hb, rfl⟩ := List.mem_map.mp hp
      exact (hok b hb).1
    · obtain ⟨b, hb, rfl⟩ := List.mem_map.mp hp
      exact (hok b hb).2
def spTakeR (K : PySem.W.Frag) (C : Addr) : Sp := fun vs H Q _ => ∃ (x dx r : Addr) (sg : List Nat) (kp : List M23.Pd) (n : Nat) (l : List Nat), vs = [.ref x, tx l] ∧ SdS K C H x dx r sg kp n ∧ KOk sg kp ∧ (sRows sg kp)[n]? = some l ∧
  ∀ H', SdS K C H' x dx r sg kp (n + 1) → Same (hide [x, r] H) (hide [x, r] H') → Q (.bl true) H'
theorem ok_SumReader_take (T : All K mg) : FnOk P w K mg base CX0 7 T.f_SumReader_take T.d_SumReader_take ["self", "line"] (spTakeR K T.C_SumReader) := by
  refine T.SumReader_take.F.ok sc_SumReader_take (fun vs H Q E h => ?_) (fun cdv A outer s H vs Q E hr h => ?_)
  · obtain ⟨x, dx, r, sg, kp, n, l, rfl, _⟩ := h
    rfl
  · obtain ⟨x, dx, r, sg, kp, n, l, rfl, hR, hK, hl, qq⟩ := h
    have hO := hK.ok
    have hL := hO.lets
    obtain ⟨ws, hws, el, esp, hll⟩ := sRow_split hO hl
    refine ⟨_, pss_cons (ps_set (i := 2) sc_SumReader_take.nd rfl (by first | exact Or.inl rfl | exact Or.inr rfl) (pe_bm PySem.F.plainAttrs_str PySem.F.slot_str_split PySem.F.type_str_split mt_split (pv 1) (pa_cons pe_str pa_nil)))
      (pss_cons (ps_if (pt_cmpR op_isN (pe_fld (pv 0) rfl) pe_non (nomark _)) (pss_cons (ps_if (PW.pt (pw_or (pt_cmpR op_ne (pe_callB call_len_seq (by rfl) T.b_len PySem.boot_len (pa_cons (pv 2) pa_nil)) pe_int (nomark _)) (pw_or (pt_cmpR op_ne (pe_ix ix_list (pv 2) pe_int (fun _ _ => rfl)) pe_str (nomark _)) (pw_or1 (pt_not (pt_val (pe_call (ok_are_letters T) (hr.mono (by decide)) (by rfl) T.are_letters.g T.are_letters.F.kp T.are_letters.b .nil pass0 (pa_cons (pe_ix ix_list (pv 2) pe_int (fun _ _ => rfl)) pa_nil)))))))) (pss_one (ps_ret pe_bl)) pss_nil)
      (pss_cons (ps_fld (pv 0) (pe_ix ix_list (pv 2) pe_int (fun _ _ => rfl)) rfl)
      (pss_one (ps_ret pe_bl)))) pss_nil)
      (pss_one (ps_ret (pe_and (pe_cmpR op_eq (pe_ix ix_list (pv 2) pe_int (fun _ _ => rfl)) pe_str (by rfl))
        (pe_one (pe_meth (pv 0) T.cl_SumReader T.SumReader_take_product.m (ok_SumReader_take_product T) (hr.mono (by decide)) T.SumReader_take_product.b .nil pass0 (pa_cons (pe_callTy call_tuple_of (by rfl) T.b_tuple (show bootBuiltins "tuple" = some (.type "tuple") by decide +kernel) (pa_cons (pe_slice sl_list (pv 2) (po_some pe_int) po_none) pa_nil)) pa_nil))))))), ?_⟩
    refine ⟨_, rfl, rfl, tS l, (" " : Str), rfl, rfl, rfl, by rw [show (tS l).length = _ from SX.S_len l, sizeLine_eq]; omega, ?_⟩
    intro p np
    rw [esp]
    have s1 := same_upd (o := .lst (ws.map tx)) np
    have h1 := upd_same (H := H) (a := p) (o := .lst (ws.map tx))
    obtain ⟨cs0, hrr0, _⟩ := id hR.ro
    have npl : p ∉ [x, r] := by
      have a1 : p ≠ x := fun e => by rw [e, hR.ob] at np; cases np
      have a2 : p ≠ r := fun e => by rw [e, hrr0] at np; cases np
      simp [a1, a2]
    have hR1 := hR.same s1
    have hSp1 : SqL K (upd H p (.lst (ws.map tx))) p (ws.map tx) := .inl (.inl h1)
    have hid : Same (hide [x, r] H) (hide [x, r] (upd H p (.lst (ws.map tx)))) := hide_mono s1
    generalize upd H p (.lst (ws.map tx)) = H1 at *
    rcases n with _ | n
    · have ew : ws = [wSum, sg] := (Option.some.inj hws).symm
      subst ew
      have hob : H1 x = some (.ins T.C_SumReader dx [("own_letters", .non), ("own_told", .ref r)]) := by
        have := hR1.ob
        rwa [if_pos rfl] at this
      refine ⟨_, rfl, x, T.C_SumReader, dx, _, _, rfl, hob, T.cl_SumReader, T.n_SumReader_own_letters, rfl, rfl, _, rfl, ite_t rfl ?_⟩
      refine ⟨_, rfl, p, _, rfl, .inl hSp1, rfl, _, rfl, ite_f rfl ?_⟩
      refine ⟨_, rfl, p, _, _, _, rfl, rfl, hSp1, atI_0, rfl, _, rfl, ite_f (by rw [show decide (tx wSum = V.str "sum") = true from decide_eq_true rfl]; rfl) ?_⟩
      refine ⟨_, rfl, p, _, _, _, rfl, rfl, hSp1, atI_1, sg, rfl, hL, fun H2 s2 => ⟨true, rfl, iteF ?_⟩⟩
      refine ⟨_, rfl, p, _, _, _, rfl, rfl, sq_same hSp1 s2, atI_1, _, rfl, x, T.C_SumReader, dx, _, rfl, s2 _ _ hob, T.cl_SumReader, T.n_SumReader_own_letters, by show (2 : Nat) < 1000; decide, ?_⟩
      have hR2 := hR1.same s2
      have e3 : hide [x, r] (upd H2 x (.ins T.C_SumReader dx (putF "own_letters" (tx sg) [("own_letters", .non), ("own_told", .ref r)]))) = hide [x, r] H2 := hide_upd (by simp)
      obtain ⟨cs, hrr, hcs, hpr⟩ := hR2.ro
      refine qq _ ⟨upd_same, hR2.xr, ⟨cs, by rw [upd_ne hR2.xr.symm]; exact hrr, hcs, by rw [e3]; exact hpr⟩⟩ (by rw [e3]; exact hid.trans (hide_mono s2))
    · have hlt : n < kp.length := by
        have := (List.getElem?_eq_some_iff.mp hws).1
        unfold sAll at this
        simp at this
        exact this
      have hpd : kp[n]? = some kp[n] := List.getElem?_eq_getElem hlt
      generalize kp[n] = pd at hpd
      have ew : ws = wPro :: pd := by
        unfold sAll at hws
        rw [List.getElem?_cons_succ, List.getElem?_map, hpd] at hws
        exact (Option.some.inj hws).symm
      subst ew
      have hob : H1 x = some (.ins T.C_SumReader dx [("own_letters", tx sg), ("own_told", .ref r)]) := by
        have := hR1.ob
        rwa [if_neg (by omega)] at this
      refine ⟨_, rfl, x, T.C_SumReader, dx, _, _, rfl, hob, T.cl_SumReader, T.n_SumReader_own_letters, rfl, rfl, _, rfl, ite_f (by rw [decide_eq_false (by simp)]) ?_⟩
      refine next_to ?_
      refine ⟨_, rfl, p, _, _, _, rfl, rfl, hSp1, atI_0, rfl, _, rfl, ite_t (decide_eq_true rfl) ?_⟩
      refine ⟨_, rfl, x, dx, _, rfl, hob, rfl, _, rfl, _, rfl, p, _, rfl, hSp1, fun p2 n2 => ?_⟩
      rw [cut1, show ((wPro :: pd).map tx).drop 1 = pd.map tx from rfl]
      have s2 := same_upd (o := .lst (pd.map tx)) n2
      refine ⟨p2, _, rfl, .inl ⟨.inl (.inl upd_same), fun p3 n3 => ?_⟩⟩
      have s3 := same_upd (o := .tup (pd.map tx)) n3
      have hR3 := (hR1.same s2).same s3
      have hp3 := upd_same (H := upd H1 p2 (.lst (pd.map tx))) (a := p3) (o := .tup (pd.map tx))
      have np3 : p3 ∉ [x, r] := by
        have a1 : p3 ≠ x := fun e => by rw [e] at n3; rw [s2 _ _ hob] at n3; cases n3
        obtain ⟨cs1, hrr1, _⟩ := (hR1.same s2).ro
        have a2 : p3 ≠ r := fun e => by rw [e, hrr1] at n3; cases n3
        simp [a1, a2]
      exact ⟨x, dx, r, p3, sg, kp, n, pd, rfl, hR3, hK, hpd, .inl (.inl (by rw [hide_out np3]; exact hp3)), fun H' hR' s' => qq _ hR' (hid.trans ((hide_mono (s2.trans s3)).trans s'))⟩
def spLack (K : PySem.W.Frag) (C : Addr) : Sp := fun vs H Q _ => ∃ (x dx r : Addr) (sg : List Nat) (kp : List M23.Pd) (n : Nat), vs = [.ref x] ∧ SdS K C H x dx r sg kp (n + 1) ∧ Q (.bl false) H
theorem ok_SumReader_is_lacking (T : All K mg) : FnOk P w K mg base CX0 1 T.f_SumReader_is_lacking T.d_SumReader_is_lacking ["self"] (spLack K T.C_SumReader) := by
  refine T.SumReader_is_lacking.F.ok sc_SumReader_is_lacking (fun vs H Q E h => ?_) (fun cdv A outer s H vs Q E hr h => ?_)
  · obtain ⟨x, dx, r, sg, kp, n, rfl, _⟩ := h
    rfl
  · obtain ⟨x, dx, r, sg, kp, n, rfl, hR, qq⟩ := h
    have hob : H x = some (.ins T.C_SumReader dx [("own_letters", tx sg), ("own_told", .ref r)]) := by
      have := hR.ob
      rwa [if_neg (by omega)] at this
    refine ⟨_, pss_one (ps_ret (pe_cmpR op_isN (pe_fld (pv 0) rfl) pe_non (by rfl))), ?_⟩
    refine ⟨_, rfl, x, T.C_SumReader, dx, _, _, rfl, hob, T.cl_SumReader, T.n_SumReader_own_letters, rfl, rfl, ?_⟩
    rw [decide_eq_false (by simp)]
    exact qq
def spSMade (K : PySem.W.Frag) (C CS : Addr) : Sp := fun vs H Q _ => ∃ (x dx r : Addr) (sg : List Nat) (kp : List M23.Pd), vs = [.ref x] ∧ SdS K C H x dx r sg kp (kp.length + 1) ∧ KOk sg kp ∧ NewS K CS H Q sg kp
theorem ok_SumReader_made (T : All K mg) : FnOk P w K mg base CX0 11 T.f_SumReader_made T.d_SumReader_made ["self"] (spSMade K T.C_SumReader T.C_Sum) := by
  refine T.SumReader_made.F.ok sc_SumReader_made (fun vs H Q E h => ?_) (fun cdv A outer s H vs Q E hr h => ?_)
  · obtain ⟨x, dx, r, sg, kp, rfl, _⟩ := h
    rfl
  · obtain ⟨x, dx, r, sg, kp, rfl, hR, hK, qq⟩ := h
    refine ⟨_, pss_cons (ps_for PassesOwn.never rfl (pi_enumS rfl T.b_enumerate (pa_cons (pe_fld (pv 0) rfl) pa_nil)) (pg_tup rfl (pgs_cons (pg_name (i := 1) sc_SumReader_made.nd rfl (by first | exact Or.inl rfl | exact Or.inr rfl)) (pgs_cons (pg_name (i := 2) sc_SumReader_made.nd rfl (by first | exact Or.inl rfl | exact Or.inr rfl)) pgs_nil)))
        (pss_cons (ps_set (i := 3) sc_SumReader_made.nd rfl (by first | exact Or.inl rfl | exact Or.inr rfl) (pe_op op_cat (pe_slice sl_list (pe_fld (pv 0) rfl) po_none (po_some (pv 1))) (pe_slice sl_list (pe_fld (pv 0) rfl) (po_some (pe_op op_add (pv 1) pe_int)) po_none)))
      (pss_one (ps_if (pt_val (pe_callB (cr_any rfl) (by rfl) T.b_any PyProof.Rows.boot_any (pa_cons (pe_lc (own := [("other", 4)]) (g := gName 4) (tt := tYes) rfl sc_SumReader_made.nd (pi_list (pv 3))
          (blkOk_by (own := [("other", 4)]) (N := ["self", "at", "product", "others", "other"]) (sc := defScope s_SumReader_made) (by decide +kernel))
          (fun _ _ _ _ _ => pg_name (i := 4) sc_SumReader_made.nd rfl (by first | exact Or.inl rfl | exact Or.inr rfl)) (fun _ _ _ _ _ => pts_nil)
          (fun _ _ _ _ _ => (pe_call (ok_lies_within T) (hr.mono (by decide)) (by rfl) T.lies_within.g T.lies_within.F.kp T.lies_within.b .nil pass0 (pa_cons (pv 2) (pa_cons (pv 4) pa_nil))))) pa_nil))) (pss_one ps_never) pss_nil))))
      (pss_one (ps_ret (pe_call (ok_sum_of T) (hr.mono (by decide)) (by rfl) T.sum_of.g T.sum_of.F.kp T.sum_of.b .nil pass0 (pa_cons (pe_fld (pv 0) rfl) (pa_cons (pe_fld (pv 0) rfl) pa_nil))))), ?_⟩
    have hob : H x = some (.ins T.C_SumReader dx [("own_letters", tx sg), ("own_told", .ref r)]) := by
      have := hR.ob
      rwa [if_neg (by omega)] at this
    obtain ⟨cs, hrr, hcs, hpr0⟩ := hR.ro
    have hcs : cs.map Prod.snd = kp := by rw [hcs]; exact List.take_of_length_le (by omega)
    have hpr := hpr0.same hide_le
    have hO := hK.ok
    have hfew := hO.few
    have hcl : cs.length = kp.length := by rw [← hcs, List.length_map]
    have hmem : ∀ b ∈ cs, b.2 ∈ kp := fun b hb => hcs ▸ List.mem_map_of_mem hb
    have hok : ∀ b ∈ cs, PdOk sg b.2 ∧ b.2.length ≤ 100 := fun b hb => by
      obtain ⟨h1, h2⟩ := hO.pd b.2 (hmem b hb)
      exact ⟨h1, by omega⟩
    have hten : ∀ b ∈ cs, ∀ y ∈ b.2, y.length ≤ 10 := fun b hb y hy => by have := ((hok b hb).1 y hy).len hO.lets; omega
    refine ⟨_, rfl, x, T.C_SumReader, dx, _, _, rfl, hob, T.cl_SumReader, T.n_SumReader_own_told, rfl, .L r, rfs cs, rfl, .inl (.inl hrr), ?_⟩
    refine for_it walk_enumS (fun i σ H' => ∃ a b o, σ = [some (.ref x), a, b, o, none] ∧ Same H H') ⟨none, none, none, rfl, Same.refl _⟩ (fun i σ H' _ p => by obtain ⟨_, _, _, _, sm⟩ := p; exact .inl (.inl (sm _ _ hrr))) (fun i v σ H3 H4 hi p y => ?_) (fun σ H3 p => ?_)
    · obtain ⟨a0, b0, o0, rfl, sm⟩ := p
      obtain ⟨Tp, x1, x2, rfl, nT, rfl, e1, e2⟩ := y
      cases e1
      have e2 : (rfs cs)[i]? = some x2 := e2
      rw [show (rfs cs)[i]? = (cs[i]?).map fun b => V.ref b.1 from List.getElem?_map] at e2
      obtain ⟨c, hc, rfl⟩ := Option.map_eq_some_iff.mp e2
      have hcm := List.mem_of_getElem? hc
      have sm2 := same_up (o := .tup [.int (i : Nat), .ref c.1]) sm (sm.free nT)
      have hTp := upd_same (H := H3) (a := Tp) (o := .tup [.int (i : Nat), .ref c.1])
      generalize upd H3 Tp (.tup [.int (i : Nat), .ref c.1]) = H5 at *
      refine ⟨Tp, _, rfl, .inl (.inl hTp), rfl, _, _, rfl, _, _, rfl, rfl, ?_⟩
      refine ⟨_, rfl, x, T.C_SumReader, dx, _, _, rfl, sm2 _ _ hob, T.cl_SumReader, T.n_SumReader_own_told, rfl, _, rfl, _, rfl, r, _, rfl, .inl (.inl (sm2 _ _ hrr)), fun p1 n1 => ?_⟩
      rw [cutV_n]
      have s1 := same_upd (o := .lst ((rfs cs).take i)) n1
      have h1 := upd_same (H := H5) (a := p1) (o := .lst ((rfs cs).take i))
      generalize upd H5 p1 (.lst ((rfs cs).take i)) = H6 at *
      have sm3 := sm2.trans s1
      refine ⟨_, rfl, x, T.C_SumReader, dx, _, _, rfl, sm3 _ _ hob, T.cl_SumReader, T.n_SumReader_own_told, rfl, _, rfl, _, _, rfl, rfl, _, rfl, r, _, rfl, .inl (.inl (sm3 _ _ hrr)), fun p2 n2 => ?_⟩
      dsimp only
      rw [show ((i : Nat) : Int) + 1 = ((i + 1 : Nat) : Int) by omega, cutV_lo]
      have s2 := same_upd (o := .lst ((rfs cs).drop (i + 1))) n2
      have h2 := upd_same (H := H6) (a := p2) (o := .lst ((rfs cs).drop (i + 1)))
      generalize upd H6 p2 (.lst ((rfs cs).drop (i + 1))) = H7 at *
      have hrl : (rfs cs).length = kp.length := by unfold rfs; rw [List.length_map]; exact hcl
      refine ⟨p1, p2, _, _, rfl, rfl, s2 _ _ h1, h2, by rw [List.length_take, List.length_drop, sizeLine_eq]; omega, fun p3 n3 => ?_⟩
      have eO : (rfs cs).take i ++ (rfs cs).drop (i + 1) = rfs (cs.take i ++ cs.drop (i + 1)) := by unfold rfs; rw [List.map_append, List.map_take, List.map_drop]
      rw [eO]
      have hos : ∀ o ∈ cs.take i ++ cs.drop (i + 1), o ∈ cs ∧ o.2 ≠ c.2 := fun o ho => by
        have hci : i < cs.length := (List.getElem?_eq_some_iff.mp hc).1
        have ec : cs[i] = c := (List.getElem?_eq_some_iff.mp hc).2
        have e : cs = cs.take i ++ c :: cs.drop (i + 1) := by
          rw [← ec, ← List.drop_eq_getElem_cons hci, List.take_append_drop]
        have hn := hK.nod
        rw [← hcs, e, List.map_append, List.map_cons] at hn
        have hn2 := (List.nodup_cons.mp (List.perm_middle.nodup_iff.mp hn)).1
        rw [← List.map_append] at hn2
        refine ⟨?_, fun z => hn2 (z ▸ List.mem_map_of_mem ho)⟩
        rcases List.mem_append.mp ho with ho | ho
        · exact List.mem_of_mem_take ho
        · exact List.mem_of_mem_drop ho
      have hol : (cs.take i ++ cs.drop (i + 1)).length ≤ 40 := by rw [List.length_append, List.length_take, List.length_drop]; omega
      generalize cs.take i ++ cs.drop (i + 1) = os at hos hol n3
      have s3 := same_upd (o := .lst (rfs os)) n3
      have h3 := upd_same (H := H7) (a := p3) (o := .lst (rfs os))
      generalize upd H7 p3 (.lst (rfs os)) = H8 at *
      have sm8 := sm3.trans (s2.trans s3)
      refine ⟨_, rfl, p3, rfl, ⟨_, .inl (.inl h3)⟩, fun D nD => ?_⟩
      refine lc_gen (walk_list (xs := rfs os)) (Same H8) (fun j acc => acc = List.replicate j (.bl false)) (sz (by unfold rfs; rw [List.length_map]; omega)) (fun j acc e => by rw [e]; simp) rfl (same_upd nD) (fun _ _ h => same_up h nD) (fun _ h => .inl (.inl (h _ _ h3))) (fun j x' H9 H10 acc C N hj rs hD ha y cc nn => ?_) (fun H9 ys rs hD ha => ?_)
      · obtain ⟨rfl, y⟩ := y
        rw [show (rfs os)[j]? = (os[j]?).map fun b => V.ref b.1 from List.getElem?_map] at y
        obtain ⟨o, ho, rfl⟩ := Option.map_eq_some_iff.mp y
        obtain ⟨hoc, hne⟩ := hos o (List.mem_of_getElem? ho)
        have sm9 := sm8.trans rs
        refine ⟨rfl, yes_te ⟨_, rfl, _, rfl, .ref c.1, .ref o.1, c.2, o.2, rfl, pd_dp (sqT_same (hpr c hcm) sm9), pd_dp (sqT_same (hpr o hoc) sm9), by have := (hok c hcm).2; omega, by have := (hok o hoc).2; omega, hten c hcm, hten o hoc, fun H11 s11 => ?_⟩⟩
        have hno : (M23.runI o.2 0 c.2).isSome = false := by
          rw [← Bool.not_eq_true]
          intro z
          exact M23.none_iff.mp (hK.apart c.2 (hmem c hcm) o.2 (hmem o hoc) hne.symm) (M23.runI_some.mp z)
        rw [hno]
        exact cc _ _ (rs.trans s11) (s11 _ _ hD) (by rw [ha, List.replicate_succ'])
      · have el : (rfs os).length = os.length := by unfold rfs; rw [List.length_map]
        rw [el] at ha
        subst ha
        refine ⟨D, List.replicate os.length false, rfl, .inl (.inl (by rw [hD, List.map_replicate])), false, ?_, iteF ⟨_, _, _, rfl, sm8.trans rs⟩⟩
        rw [any_rep]
    · obtain ⟨a0, b0, o0, rfl, sm⟩ := p
      refine ⟨_, rfl, x, T.C_SumReader, dx, _, _, rfl, sm _ _ hob, T.cl_SumReader, T.n_SumReader_own_letters, rfl, _, rfl, x, T.C_SumReader, dx, _, _, rfl, sm _ _ hob, T.cl_SumReader, T.n_SumReader_own_told, rfl, sg, r, cs, rfl, hO.lets, .inl (.inl (sm _ _ hrr)), hpr.same sm, hok, by omega, fun H' z s' nz hZ => ?_⟩
      rw [hcs, hK.kk] at hZ
      exact qq _ _ (sm.trans s') (sm.free nz) hZ
end
end Lw
namespace Lw
open PySem PySem.Spec PyProof.Rows L3
open L2 hiding del del_same del_ne
theorem out2 {H : Hp} {x r p : Addr} {a b : HO} (ha : H x = some a) (hb : H r = some b) (np : H p = none) : p ∉ [x, r] := by
  have a1 : p ≠ x := fun e => by rw [e, ha] at np; cases np
  have a2 : p ≠ r := fun e => by rw [e, hb] at np; cases np
  simp [a1, a2]
section
variable {P : Program} {w : World} {K : PySem.W.Frag} {mg : Str → Option Value} {base : Heap}
def spMInit (C : Addr) : Sp := fun vs H Q _ => ∃ (x dx : Addr), vs = [.ref x] ∧ H x = some (.ins C dx []) ∧ ∀ H' r q, (∀ b o, H b = some o → b ≠ x → H' b = some o) → H' x = some (.ins C dx [("own_letters", .non), ("own_rows", .ref r), ("own_kinds", .ref q)]) → Q .non H'
theorem ok_MachineReader_init (T : All K mg) : FnOk P w K mg base CX0 1 T.f_MachineReader_init T.d_MachineReader_init ["self"] (spMInit T.C_MachineReader) := by
  refine T.MachineReader_init.F.ok sc_MachineReader_init (fun vs H Q E h => ?_) (fun cdv A outer s H vs Q E hr h => ?_)
  · obtain ⟨x, dx, rfl, _⟩ := h
    rfl
  · obtain ⟨x, dx, rfl, hx, q⟩ := h
    refine ⟨_, pss_cons (ps_fld (pv 0) pe_non rfl)
      (pss_cons (ps_fld (pv 0) (pe_lst pa_nil) rfl)
      (pss_one (ps_fld (pv 0) (pe_lst pa_nil) rfl))), ?_⟩
    refine ⟨_, rfl, x, T.C_MachineReader, dx, [], rfl, hx, T.cl_MachineReader, T.n_MachineReader_own_letters, by decide, ?_⟩
    refine ⟨by show 0 ≤ sizeLine; decide, fun r n1 => ?_⟩
    have hxr : x ≠ r := fun e => by rw [← e, upd_same] at n1; cases n1
    have hrn : H r = none := by rw [upd_ne hxr.symm] at n1; exact n1
    refine ⟨_, rfl, x, T.C_MachineReader, dx, _, rfl, by rw [upd_ne hxr, upd_same], T.cl_MachineReader, T.n_MachineReader_own_rows, by show (1 : Nat) < 1000; decide, by show 0 ≤ sizeLine; decide, fun q' n2 => ?_⟩
    have hxq : x ≠ q' := fun e => by rw [← e, upd_same] at n2; cases n2
    have hrq : r ≠ q' := fun e => by rw [← e, upd_ne hxr.symm, upd_same] at n2; cases n2
    have hqn : H q' = none := by rw [upd_ne hxq.symm, upd_ne hrq.symm, upd_ne hxq.symm] at n2; exact n2
    refine ⟨_, rfl, x, T.C_MachineReader, dx, _, rfl, by rw [upd_ne hxq, upd_same], T.cl_MachineReader, T.n_MachineReader_own_kinds, by show (2 : Nat) < 1000; decide, ?_⟩
    refine q _ r q' (fun b o e nb => ?_) upd_same
    rw [upd_ne nb, upd_ne (ne_of_none e hqn), upd_ne nb, upd_ne (ne_of_none e hrn), upd_ne nb]
    exact e
def spMTake (C : Addr) : Sp := fun vs H Q _ => ∃ (x dx r q : Addr) (sg : List Nat) (kp : List M23.Pd) (l : List Nat), vs = [.ref x, tx l] ∧ H x = some (.ins C dx [("own_letters", .non), ("own_rows", .ref r), ("own_kinds", .ref q)]) ∧ SOk sg kp ∧ (sRows sg kp)[0]? = some l ∧
  ∀ H', Same H H' → Q (.bl false) H'
theorem ok_MachineReader_take (T : All K mg) : FnOk P w K mg base CX0 3 T.f_MachineReader_take T.d_MachineReader_take ["self", "line"] (spMTake T.C_MachineReader) := by
  refine T.MachineReader_take.F.ok sc_MachineReader_take (fun vs H Q E h => ?_) (fun cdv A outer s H vs Q E hr h => ?_)
  · obtain ⟨x, dx, r, q, sg, kp, l, rfl, _⟩ := h
    rfl
  · obtain ⟨x, dx, r, q, sg, kp, l, rfl, hob, hO, hl, qq⟩ := h
    obtain ⟨ws, hws, el, esp, hll⟩ := sRow_split hO hl
    refine ⟨_, pss_cons (ps_set (i := 2) sc_MachineReader_take.nd rfl (by first | exact Or.inl rfl | exact Or.inr rfl) (pe_bm PySem.F.plainAttrs_str PySem.F.slot_str_split PySem.F.type_str_split mt_split (pv 1) (pa_cons pe_str pa_nil)))
      (pss_cons (ps_if (pt_cmpR op_isN (pe_fld (pv 0) rfl) pe_non (nomark _)) (pss_cons (ps_if (PW.pt (pw_or (pt_cmpR op_ne (pe_callB call_len_seq (by rfl) T.b_len PySem.boot_len (pa_cons (pv 2) pa_nil)) pe_int (nomark _)) (pw_or (pt_cmpR op_ne (pe_ix ix_list (pv 2) pe_int (fun _ _ => rfl)) pe_str (nomark _)) (pw_or1 (pt_not (pt_val (pe_call (ok_are_letters T) (hr.mono (by decide)) (by rfl) T.are_letters.g T.are_letters.F.kp T.are_letters.b .nil pass0 (pa_cons (pe_ix ix_list (pv 2) pe_int (fun _ _ => rfl)) pa_nil)))))))) (pss_one (ps_ret pe_bl)) pss_nil)
      (pss_cons (ps_fld (pv 0) (pe_ix ix_list (pv 2) pe_int (fun _ _ => rfl)) rfl)
      (pss_one (ps_ret pe_bl)))) pss_nil)
      (pss_one (ps_ret pe_never))), ?_⟩
    refine ⟨_, rfl, rfl, tS l, (" " : Str), rfl, rfl, rfl, by rw [show (tS l).length = _ from SX.S_len l, sizeLine_eq]; omega, ?_⟩
    intro p np
    rw [esp]
    have s1 := same_upd (o := .lst (ws.map tx)) np
    have h1 := upd_same (H := H) (a := p) (o := .lst (ws.map tx))
    generalize upd H p (.lst (ws.map tx)) = H1 at *
    have hSp1 : SqL K H1 p (ws.map tx) := .inl (.inl h1)
    have ew : ws = [wSum, sg] := (Option.some.inj hws).symm
    subst ew
    refine ⟨_, rfl, x, T.C_MachineReader, dx, _, _, rfl, s1 _ _ hob, T.cl_MachineReader, T.n_MachineReader_own_letters, rfl, rfl, _, rfl, ite_t rfl ?_⟩
    refine ⟨_, rfl, p, _, rfl, .inl hSp1, rfl, _, rfl, ite_f rfl ?_⟩
    refine ⟨_, rfl, p, _, _, _, rfl, rfl, hSp1, atI_0, rfl, _, rfl, ite_t (by rw [show decide (tx wSum = V.str "letters") = false by decide]; rfl) ?_⟩
    exact qq _ s1
def spReadBy (K : PySem.W.Frag) (C CM : Addr) : Sp := fun vs H Q _ => ∃ (x dx r : Addr) (sg : List Nat) (kp : List M23.Pd), vs = [.ref x, tx (sText sg kp)] ∧ SdS K C H x dx r sg kp 0 ∧ KOk sg kp ∧
  ∀ H' m, Same (hide [x, r] H) H' → hide [x, r] H m = none → SumO CM K H' m sg kp → Q (.ref m) H'
theorem ok_read_by (T : All K mg) : FnOk P w K mg base CX0 12 T.f_read_by T.d_read_by ["reader", "written"] (spReadBy K T.C_SumReader T.C_Sum) := by
  refine T.read_by.F.ok sc_read_by (fun vs H Q E h => ?_) (fun cdv A outer s H vs Q E hr h => ?_)
  · obtain ⟨x, dx, r, sg, kp, rfl, _⟩ := h
    rfl
  · obtain ⟨x, dx, r, sg, kp, rfl, hR, hK, qq⟩ := h
    have hO := hK.ok
    refine ⟨_, pss_cons (ps_if (pt_not (pt_val (pe_callB call_isi (by rfl) T.b_isinstance boot_isinstance (pa_cons (pv 1) (pa_cons (pe_bltn (v := .ty "str") (by rfl) T.b_str (by decide +kernel) rfl) pa_nil))))) (pss_one ps_never) pss_nil)
      (pss_cons (ps_set (i := 2) sc_read_by.nd rfl (by first | exact Or.inl rfl | exact Or.inr rfl) (pe_bm PySem.F.plainAttrs_str PySem.F.slot_str_split PySem.F.type_str_split mt_split (pv 1) (pa_cons pe_str pa_nil)))
      (pss_cons (ps_for PassesOwn.never rfl (pi_enumS rfl T.b_enumerate (pa_cons (pe_slice sl_list (pv 2) po_none (po_some (pe_un un_neg pe_int))) pa_nil)) (pg_tup rfl (pgs_cons (pg_name (i := 3) sc_read_by.nd rfl (by first | exact Or.inl rfl | exact Or.inr rfl)) (pgs_cons (pg_name (i := 4) sc_read_by.nd rfl (by first | exact Or.inl rfl | exact Or.inr rfl)) pgs_nil)))
        (pss_one (ps_if (pt_not (pt_val (pe_meth (pv 0) T.cl_SumReader T.SumReader_take.m (ok_SumReader_take T) (hr.mono (by decide)) T.SumReader_take.b .nil pass0 (pa_cons (pv 4) pa_nil)))) (pss_one ps_never) pss_nil)))
      (pss_cons (ps_if (PW.pt (pw_or (pt_cmpR op_ne (pe_ix ix_list (pv 2) (pe_un un_neg pe_int) (fun _ _ => rfl)) pe_str (nomark _)) (pw_or1 (pt_val (pe_meth0 (pv 0) T.cl_SumReader T.SumReader_is_lacking.m (ok_SumReader_is_lacking T) (hr.mono (by decide)) T.SumReader_is_lacking.b .nil pass0))))) (pss_one ps_never) pss_nil)
      (pss_one (ps_ret (pe_meth0 (pv 0) T.cl_SumReader T.SumReader_made.m (ok_SumReader_made T) (hr.mono (by decide)) T.SumReader_made.b .nil pass0)))))), ?_⟩
    have hz := hO.text
    refine ⟨_, rfl, _, .ty "str", .type "str", .type "str", true, rfl, .ty _, .base (.str _), kit_ty (by decide +kernel), true, rfl, iteF ?_⟩
    refine ⟨_, rfl, rfl, tS (sText sg kp), ("\n" : Str), rfl, rfl, rfl, by rw [show (tS (sText sg kp)).length = _ from SX.S_len _, sizeLine_eq]; omega, ?_⟩
    intro p np
    rw [sText_split hO]
    obtain ⟨xs0, hrr, _⟩ := id hR.ro
    have npl := out2 hR.ob hrr np
    have s1 := same_upd (o := .lst ((sRows sg kp).map tx ++ [tx []])) np
    have h1 := upd_same (H := H) (a := p) (o := .lst ((sRows sg kp).map tx ++ [tx []]))
    generalize upd H p (.lst ((sRows sg kp).map tx ++ [tx []])) = H1 at *
    refine ⟨_, rfl, 1, rfl, _, rfl, p, _, rfl, .inl (.inl h1), fun p2 np2 => ?_⟩
    rw [cutLast]
    have np2l := out2 (hR.same s1).ob (s1 _ _ hrr) np2
    have s2 := same_upd (o := .lst ((sRows sg kp).map tx)) np2
    have h2 := upd_same (H := H1) (a := p2) (o := .lst ((sRows sg kp).map tx))
    have h12 := s2 _ _ h1
    have s12 := s1.trans s2
    generalize upd H1 p2 (.lst ((sRows sg kp).map tx)) = H2 at *
    refine ⟨.L p2, _, rfl, .inl (.inl h2), ?_⟩
    refine for_it walk_enumS (fun i σ H' => ∃ a b, σ = [some (.ref x), some (tx (sText sg kp)), some (.ref p), a, b] ∧ SdS K T.C_SumReader H' x dx r sg kp i ∧ Same (hide [x, r] H2) (hide [x, r] H')) ⟨none, none, rfl, hR.same s12, Same.refl _⟩ (fun i σ H' _ p => by obtain ⟨_, _, _, _, sm⟩ := p; exact .inl (.inl (hide_keep sm h2 np2l))) (fun i v σ H3 H4 hi p' y => ?_) (fun σ H3 p' => ?_)
    · obtain ⟨a0, b0, rfl, hR3, sm⟩ := p'
      obtain ⟨Tp, x1, x2, rfl, nT, rfl, e1, e2⟩ := y
      cases e1
      have e2 : ((sRows sg kp).map tx)[i]? = some x2 := e2
      rw [List.getElem?_map] at e2
      obtain ⟨l, hl, rfl⟩ := Option.map_eq_some_iff.mp e2
      have sm2 := same_upd (o := .tup [.int (i : Nat), tx l]) nT
      have hTp := upd_same (H := H3) (a := Tp) (o := .tup [.int (i : Nat), tx l])
      generalize upd H3 Tp (.tup [.int (i : Nat), tx l]) = H5 at *
      have hR5 := hR3.same sm2
      refine ⟨Tp, _, rfl, .inl (.inl hTp), rfl, _, _, rfl, _, _, rfl, rfl, ?_⟩
      exact ⟨_, rfl, x, dx, _, rfl, hR5.ob, rfl, _, rfl, x, dx, r, sg, kp, i, l, rfl, hR5, hK, hl, fun H6 hR6 s6 => ⟨true, rfl, iteF ⟨_, _, rfl, hR6, sm.trans ((hide_mono sm2).trans s6)⟩⟩⟩
    · obtain ⟨a0, b0, rfl, hR3, sm⟩ := p'
      rw [List.length_map, sRows_len] at hR3
      have h3 := hide_keep sm h12 npl
      refine ⟨_, rfl, 1, rfl, p, _, _, _, rfl, rfl, .inl (.inl h3), atLast _ _, rfl, _, rfl, ite_f (by rw [show decide (tx [] = V.str "") = true from decide_eq_true rfl]; rfl) ?_⟩
      refine ⟨_, rfl, x, dx, _, rfl, hR3.ob, rfl, x, dx, r, sg, kp, kp.length, rfl, hR3, false, rfl, iteF ?_⟩
      have sAll : Same (hide [x, r] H) H3 := (hide_mono s12).trans (sm.trans hide_le)
      exact ⟨_, rfl, x, dx, _, rfl, hR3.ob, rfl, x, dx, r, sg, kp, rfl, hR3, hK, fun H8 m s8 n8 hM => qq H8 m (sAll.trans s8) (sAll.free n8) hM⟩
def spReadX (C Ce : Addr) : Sp := fun vs H Q E => ∃ (x dx r q : Addr) (sg : List Nat) (kp : List M23.Pd), vs = [.ref x, tx (sText sg kp)] ∧ H x = some (.ins C dx [("own_letters", .non), ("own_rows", .ref r), ("own_kinds", .ref q)]) ∧ SOk sg kp ∧
  ∀ H' d, Same H H' → H' d = some (.xd [("row", .int 1)]) → E (.ref Ce) (some d) H'
theorem ok_read_byX (T : All K mg) : FnOk PW w K mg base (L2.CX PW w) 7 T.f_read_by T.d_read_by ["reader", "written"] (spReadX T.C_MachineReader T.C_InvalidRow) := by
  refine T.read_by.F.okX sc_read_by (fun vs H Q E h => ?_) (fun cdv A outer s H vs Q E hr h => ?_)
  · obtain ⟨x, dx, r, q, sg, kp, rfl, _⟩ := h
    rfl
  · obtain ⟨x, dx, r, q, sg, kp, rfl, hob, hO, qE⟩ := h
    refine ⟨_, pss_cons (ps_if (pt_not (pt_val (pe_callB call_isi (by rfl) T.b_isinstance boot_isinstance (pa_cons (pv 1) (pa_cons (pe_bltn (v := .ty "str") (by rfl) T.b_str (by decide +kernel) rfl) pa_nil))))) (pss_one (ps_raise1 rfl T.er_InvalidRow (hr.mono (by decide)) (takes_of rfl rfl rfl rfl) T.g_InvalidRow (pa_cons pe_int pa_nil))) pss_nil)
      (pss_cons (ps_set (i := 2) sc_read_by.nd rfl (by first | exact Or.inl rfl | exact Or.inr rfl) (pe_bm PySem.F.plainAttrs_str PySem.F.slot_str_split PySem.F.type_str_split mt_split (pv 1) (pa_cons pe_str pa_nil)))
      (pss_cons (ps_for (passes_of rfl) rfl (pi_enumS rfl T.b_enumerate (pa_cons (pe_slice sl_list (pv 2) po_none (po_some (pe_un un_neg pe_int))) pa_nil)) (pg_tup rfl (pgs_cons (pg_name (i := 3) sc_read_by.nd rfl (by first | exact Or.inl rfl | exact Or.inr rfl)) (pgs_cons (pg_name (i := 4) sc_read_by.nd rfl (by first | exact Or.inl rfl | exact Or.inr rfl)) pgs_nil)))
        (pss_one (ps_if (pt_not (pt_val (pe_meth (pv 0) T.cl_MachineReader T.MachineReader_take.m (ok_MachineReader_take T) (hr.mono (by decide)) T.MachineReader_take.b .nil pass0 (pa_cons (pv 4) pa_nil)))) (pss_one (ps_raise1 rfl T.er_InvalidRow (hr.mono (by decide)) (takes_of rfl rfl rfl rfl) T.g_InvalidRow (pa_cons (pe_op op_add (pv 3) pe_int) pa_nil))) pss_nil)))
      (pss_cons (ps_if (PW.pt (pw_or (pt_cmpR op_ne (pe_ix ix_list (pv 2) (pe_un un_neg pe_int) (fun _ _ => rfl)) pe_str (nomark _)) (pw_or1 (pt_val pe_never)))) (pss_one (ps_raise1 rfl T.er_InvalidRow (hr.mono (by decide)) (takes_of rfl rfl rfl rfl) T.g_InvalidRow (pa_cons (pe_callB call_len_seq (by rfl) T.b_len PySem.boot_len (pa_cons (pv 2) pa_nil)) pa_nil))) pss_nil)
      (pss_one (ps_ret pe_never))))), ?_⟩
    have hz := hO.text
    refine ⟨_, rfl, _, .ty "str", .type "str", .type "str", true, rfl, .ty _, .base (.str _), kit_ty (by decide +kernel), true, rfl, iteF ?_⟩
    refine ⟨_, rfl, rfl, tS (sText sg kp), ("\n" : Str), rfl, rfl, rfl, by rw [show (tS (sText sg kp)).length = _ from SX.S_len _, sizeLine_eq]; omega, ?_⟩
    intro p np
    rw [sText_split hO]
    have s1 := same_upd (o := .lst ((sRows sg kp).map tx ++ [tx []])) np
    have h1 := upd_same (H := H) (a := p) (o := .lst ((sRows sg kp).map tx ++ [tx []]))
    generalize upd H p (.lst ((sRows sg kp).map tx ++ [tx []])) = H1 at *
    refine ⟨_, rfl, 1, rfl, _, rfl, p, _, rfl, .inl (.inl h1), fun p2 np2 => ?_⟩
    rw [cutLast]
    have s2 := same_upd (o := .lst ((sRows sg kp).map tx)) np2
    have h2 := upd_same (H := H1) (a := p2) (o := .lst ((sRows sg kp).map tx))
    have s12 := s1.trans s2
    generalize upd H1 p2 (.lst ((sRows sg kp).map tx)) = H2 at *
    refine ⟨.L p2, _, rfl, .inl (.inl h2), ?_⟩
    refine for_it walk_enumS (fun i σ H' => i = 0 ∧ ∃ a b, σ = [some (.ref x), some (tx (sText sg kp)), some (.ref p), a, b] ∧ Same H2 H') ⟨rfl, none, none, rfl, Same.refl _⟩ (fun i σ H' _ p => by obtain ⟨_, _, _, _, sm⟩ := p; exact .inl (.inl (sm _ _ h2))) (fun i v σ H3 H4 hi p' y => ?_) (fun σ H3 p' => ?_)
    · obtain ⟨rfl, a0, b0, rfl, sm⟩ := p'
      obtain ⟨Tp, x1, x2, rfl, nT, rfl, e1, e2⟩ := y
      cases e1
      have e2 : ((sRows sg kp).map tx)[0]? = some x2 := e2
      rw [List.getElem?_map] at e2
      obtain ⟨l, hl, rfl⟩ := Option.map_eq_some_iff.mp e2
      have sm2 := same_upd (o := .tup [.int ((0 : Nat) : Nat), tx l]) nT
      have hTp := upd_same (H := H3) (a := Tp) (o := .tup [.int ((0 : Nat) : Nat), tx l])
      generalize upd H3 Tp (.tup [.int ((0 : Nat) : Nat), tx l]) = H5 at *
      have s05 := s12.trans (sm.trans sm2)
      refine ⟨Tp, _, rfl, .inl (.inl hTp), rfl, _, _, rfl, _, _, rfl, rfl, ?_⟩
      refine ⟨_, rfl, x, dx, _, rfl, s05 _ _ hob, rfl, _, rfl, x, dx, r, q, sg, kp, l, rfl, s05 _ _ hob, hO, hl, fun H6 s6 => ⟨false, rfl, iteT ?_⟩⟩
      exact ⟨_, rfl, _, _, rfl, rfl, _, rfl, fun d nd => qE _ d (s05.trans (s6.trans (same_upd nd))) upd_same⟩
    · obtain ⟨h0, _⟩ := p'
      rw [List.length_map, sRows_len] at h0
      omega
def spReadSm (K : PySem.W.Frag) (CM : Addr) : Sp := fun vs H Q _ => ∃ (sg : List Nat) (kp : List M23.Pd), vs = [tx (sText sg kp)] ∧ KOk sg kp ∧ NewS K CM H Q sg kp
theorem ok_read_sum (T : All K mg) : FnOk P w K mg base CX0 13 T.f_read_sum T.d_read_sum ["written"] (spReadSm K T.C_Sum) := by
  refine T.read_sum.F.ok sc_read_sum (fun vs H Q E h => ?_) (fun cdv A outer s H vs Q E hr h => ?_)
  · obtain ⟨sg, kp, rfl, _⟩ := h
    rfl
  · obtain ⟨sg, kp, rfl, hK, qq⟩ := h
    refine ⟨_, pss_one (ps_ret (pe_call (ok_read_by T) (hr.mono (by decide)) (by rfl) T.read_by.g T.read_by.F.kp T.read_by.b .nil pass0 (pa_cons (pe_make0 ⟨T.mk_SumReader, T.SumReader_init.m.at_, T.SumReader_init.m.fn, T.kp_SumReader⟩ (ok_SumReader_init T) (hr.mono (by decide)) (by rfl) T.g_SumReader T.SumReader_init.b .nil pass0) (pa_cons (pv 0) pa_nil)))), ?_⟩
    intro x dx nx ndx nxd
    refine ⟨x, dx, rfl, upd_same, fun H1 r hk hR hr1 => ⟨rfl, ?_⟩⟩
    have s1 : Same H H1 := Same.made nx ndx hk
    have hrn : H r = none := (same_up (same_upd ndx) nx).free hr1
    have sh : Same H (hide [x, r] H1) := fun b o e => by
      rw [hide_out]
      · exact s1 _ _ e
      · have a1 := ne_of_none e nx
        have a2 := ne_of_none e hrn
        simp [a1, a2]
    refine ⟨_, rfl, x, dx, r, sg, kp, rfl, hR sg kp, hK, fun H' m s2 n2 hM => qq H' m (sh.trans s2) (sh.free n2) hM⟩
def spReadMx (Ce : Addr) : Sp := fun vs H Q E => ∃ (sg : List Nat) (kp : List M23.Pd), vs = [tx (sText sg kp)] ∧ SOk sg kp ∧ ∀ H' d, Same H H' → H' d = some (.xd [("row", .int 1)]) → E (.ref Ce) (some d) H'
theorem ok_read_machine (T : All K mg) : FnOk PW w K mg base (L2.CX PW w) 8 T.f_read_machine T.d_read_machine ["written"] (spReadMx T.C_InvalidRow) := by
  refine T.read_machine.F.okX sc_read_machine (fun vs H Q E h => ?_) (fun cdv A outer s H vs Q E hr h => ?_)
  · obtain ⟨sg, kp, rfl, _⟩ := h
    rfl
  · obtain ⟨sg, kp, rfl, hO, qE⟩ := h
    refine ⟨_, pss_one (ps_ret (pe_call (ok_read_byX T) (hr.mono (by decide)) (by rfl) T.read_by.g T.read_by.F.kp T.read_by.b .nil (passes_call (takes_of rfl rfl rfl rfl) (fun _ _ _ _ h => h)) (pa_cons (pe_make0 ⟨T.mk_MachineReader, T.MachineReader_init.m.at_, T.MachineReader_init.m.fn, T.kp_MachineReader⟩ (ok_MachineReader_init T) (hr.mono (by decide)) (by rfl) T.g_MachineReader T.MachineReader_init.b .nil pass0) (pa_cons (pv 0) pa_nil)))), ?_⟩
    intro x dx nx ndx nxd
    refine ⟨x, dx, rfl, upd_same, fun H1 r q hk hob => ⟨rfl, ?_⟩⟩
    have s1 : Same H H1 := Same.made nx ndx hk
    exact ⟨_, rfl, x, dx, r, q, sg, kp, rfl, hob, hO, fun H' d s2 hd => qE H' d (s1.trans s2) hd⟩
end
end Lw
namespace M91
open M23
def met (x : Pc) (m : List Pd) : List Pd := if isS x then (m ++ [[]]).map (x :: ·) else m.map (x :: ·)
def mt : Pd → List Pd
  | [] => [[]]
  | x :: r => kept (met x (mt r))
theorem kept_one (p : Pd) : kept [p] = [redOf p] := by
  have h1 : redOf p ∈ kept [p] := maxs_mem.mpr ⟨by simp, fun q hq hne => by
    simp at hq
    exact absurd hq hne⟩
  have h2 := kept_len [p]
  cases e : kept [p] with
  | nil => rw [e] at h1; cases h1
  | cons a l =>
    rw [e] at h1 h2
    have : l = [] := List.eq_nil_of_length_eq_zero (by simp at h2; simpa using h2)
    subst this
    rw [List.mem_singleton.mp h1]
theorem redOf_cons {x : Pc} {r : Pd} (h : ∀ y ∈ x :: r, Ok y) : redOf (x :: redOf r) = redOf (x :: r) := by
  have e := redOf_eqv r
  refine redOf_uniq (fun y hy => ?_) (fun y hy => h y (redOf_mem hy)) (redOf_red _) ?_
  · rcases List.mem_cons.mp hy with rfl | hy
    · exact h _ List.mem_cons_self
    · exact h y (List.mem_cons_of_mem _ (redOf_mem hy))
  · exact Eqv.trans ⟨e.2.cons x, e.1.cons x⟩ (redOf_eqv (x :: r))
theorem mt_eq : ∀ {p : Pd}, (∀ y ∈ p, Ok y) → mt p = [redOf p]
  | [], _ => rfl
  | x :: r, h => by
    have hr := mt_eq (p := r) fun y hy => h y (List.mem_cons_of_mem _ hy)
    have hok : ∀ y ∈ x :: redOf r, Ok y := fun y hy => by
      rcases List.mem_cons.mp hy with rfl | hy
      · exact h _ List.mem_cons_self
      · exact h y (List.mem_cons_of_mem _ (redOf_mem hy))
    show kept (met x (mt r)) = _
    rw [hr]
    unfold met
    split
    · have e : kept [x :: redOf r, [x]] = kept [x :: redOf r] := by
        refine kept_eq (fun p hp => ?_) (fun p hp => ?_) (fun t => ?_)
        · simp only [List.mem_cons, List.not_mem_nil, or_false] at hp
          rcases hp with rfl | rfl
          · exact hok
          · intro y hy; rw [List.mem_singleton.mp hy]; exact h _ List.mem_cons_self
        · rw [List.mem_singleton.mp hp]; exact hok
        · constructor
          · rintro ⟨p, hp, ht⟩
            simp only [List.mem_cons, List.not_mem_nil, or_false] at hp
            rcases hp with rfl | rfl
            · exact ⟨_, List.mem_singleton.mpr rfl, ht⟩
            · exact ⟨_, List.mem_singleton.mpr rfl, ht.up ((Emb.nil _).cons x)⟩
          · rintro ⟨p, hp, ht⟩
            rw [List.mem_singleton.mp hp] at ht
            exact ⟨_, List.mem_cons_self, ht⟩
      show kept [x :: redOf r, [x]] = _
      rw [e, kept_one, redOf_cons h]
    · show kept [x :: redOf r] = _
      rw [kept_one, redOf_cons h]
theorem inS_app {a b : List Pd} {t : List Nat} : InS (a ++ b) t ↔ InS a t ∨ InS b t := by
  unfold InS
  constructor
  · rintro ⟨p, hp, ht⟩
    rcases List.mem_append.mp hp with hp | hp
    · exact .inl ⟨p, hp, ht⟩
    · exact .inr ⟨p, hp, ht⟩
  · rintro (⟨p, hp, ht⟩ | ⟨p, hp, ht⟩)
    · exact ⟨p, List.mem_append_left _ hp, ht⟩
    · exact ⟨p, List.mem_append_right _ hp, ht⟩
theorem allOk_app {a b : List Pd} (ha : AllOk a) (hb : AllOk b) : AllOk (a ++ b) := fun p hp => (List.mem_append.mp hp).elim (ha p) (hb p)
/-- joined -/
theorem kept_join {a b : List Pd} (ha : AllOk a) (hb : AllOk b) : kept (kept a ++ kept b) = kept (a ++ b) :=
  kept_eq (allOk_app (kept_ok ha) (kept_ok hb)) (allOk_app ha hb) fun t => by rw [inS_app, inS_app, inS_kept ha, inS_kept hb]
theorem kept_twice {a : List Pd} (ha : AllOk a) : kept (a.reverse ++ a) = kept a :=
  kept_eq (allOk_app (fun p hp => ha p (List.mem_reverse.mp hp)) ha) ha fun t => by
    rw [inS_app]
    unfold InS
    simp
theorem kept_two {a : List Pd} (ha : AllOk a) : kept (kept a ++ kept a) = kept a := by
  rw [kept_join ha ha]
  exact kept_eq (allOk_app ha ha) ha fun t => by rw [inS_app, or_self]
end M91
namespace L3
open PySem PySem.Spec PyProof.Rows L2
inductive TxsAre : List Value → List (List Nat) → Prop
  | nil : TxsAre [] []
  | cons (x : List Nat) (t : Tok) {vs : List Value} {xs : List (List Nat)} : TxsAre vs xs → TxsAre (.str (tS x) t :: vs) (x :: xs)
theorem TxsAre.length : ∀ {vs : List Value} {xs : List (List Nat)}, TxsAre vs xs → vs.length = xs.length
  | _, _, .nil => rfl
  | _, _, .cons _ _ h => by rw [List.length_cons, List.length_cons, h.length]
end L3
namespace PyProof.Rows
open PySem
end PyProof.Rows
namespace L3
open PySem PySem.Spec PyProof.Rows L2
section
variable {X : Cx}
theorem op_catAK {K : PySem.W.Frag} (h : X.K = K) : OpR X (binaryOp .Add) (rCatA K) := h ▸ op_catA
end
end L3
namespace Lw
open PySem PySem.Spec PyProof.Rows L3
open L2 hiding del del_same del_ne
section
variable {P : Program} {w : World} {K : PySem.W.Frag} {mg : Str → Option Value} {base : Heap}
def spWantSame (K : PySem.W.Frag) (C : Addr) : Sp := fun vs H Q _ => ∃ (a b : Addr) (sg : List Nat) (kp kq : List M23.Pd), vs = [.ref a, .ref b] ∧ SumO C K H a sg kp ∧ SumO C K H b sg kq ∧ Q .non H
theorem ok_want_same (T : All K mg) : FnOk P w K mg base CX0 1 T.f_want_same T.d_want_same ["one", "other"] (spWantSame K T.C_Sum) := by
  refine T.want_same.F.ok sc_want_same (fun vs H Q E h => ?_) (fun cdv A outer s H vs Q E hr h => ?_)
  · obtain ⟨a, b, sg, kp, kq, rfl, _⟩ := h
    rfl
  · obtain ⟨a, b, sg, kp, kq, rfl, hM, hN, q⟩ := h
    obtain ⟨dx, t, hat, _⟩ := hM.at_
    obtain ⟨dx', t', hat', _⟩ := hN.at_
    refine ⟨_, pss_one (ps_if (pt_cmpR op_ne (pe_fld (pv 0) rfl) (pe_fld (pv 1) rfl) (nomark _)) (pss_one ps_never) pss_nil), ?_⟩
    refine ⟨_, rfl, a, T.C_Sum, dx, _, _, rfl, hat, T.cl_Sum, T.n_Sum_own_letters, rfl, _, rfl, b, T.C_Sum, dx', _, _, rfl, hat', T.cl_Sum, T.n_Sum_own_letters, rfl, rfl, _, rfl, ite_f (by simp) q⟩
theorem ok_Sum_want_other (T : All K mg) : FnOk P w K mg base CX0 2 T.f_Sum_want_other T.d_Sum_want_other ["self", "other"] (spWantSame K T.C_Sum) := by
  refine T.Sum_want_other.F.ok sc_Sum_want_other (fun vs H Q E h => ?_) (fun cdv A outer s H vs Q E hr h => ?_)
  · obtain ⟨a, b, sg, kp, kq, rfl, _⟩ := h
    rfl
  · obtain ⟨a, b, sg, kp, kq, rfl, hM, hN, q⟩ := h
    refine ⟨_, pss_cons (ps_if (pt_not (pt_val (pe_callB call_isi (by rfl) T.b_isinstance boot_isinstance (pa_cons (pv 1) (pa_cons (pe_glob (v := .ref T.C_Sum) rfl T.g_Sum rfl) pa_nil))))) (pss_one ps_never) pss_nil)
      (pss_one (ps_expr (pe_call (ok_want_same T) (hr.mono (by decide)) (by rfl) T.want_same.g T.want_same.F.kp T.want_same.b .nil pass0 (pa_cons (pv 0) (pa_cons (pv 1) pa_nil))))), ?_⟩
    refine ⟨_, rfl, _, .ref T.C_Sum, .ref T.C_Sum, .ref T.C_Sum, true, rfl, .own _, ty_sum T hN, kit_own T, true, rfl, iteF ?_⟩
    exact ⟨_, rfl, _, rfl, a, b, sg, kp, kq, rfl, hM, hN, q⟩
def wit (kp kq : List M23.Pd) : Bool := kp.all fun p => kq.any fun q => (M23.runI q 0 p).isSome
def spAllW (K : PySem.W.Frag) : Sp := fun vs H Q _ => ∃ (a b : Addr) (kp kq : List M23.Pd), vs = [.ref a, .ref b] ∧ Dp K H (.ref a) (dPT kp) ∧ Dp K H (.ref b) (dPT kq) ∧ Few kp ∧ Few kq ∧ ∀ H', Same H H' → Q (.bl (wit kp kq)) H'
theorem ok_all_within (T : All K mg) : FnOk P w K mg base CX0 7 T.f_all_within T.d_all_within ["some", "others"] (spAllW K) := by
  refine T.all_within.F.ok sc_all_within (fun vs H Q E h => ?_) (fun cdv A outer s H vs Q E hr h => ?_)
  · obtain ⟨a, b, kp, kq, rfl, _⟩ := h
    rfl
  · obtain ⟨a, b, kp, kq, rfl, ha, hb, hf, hg, q⟩ := h
    refine ⟨_, pss_one (ps_ret (pe_callB (cr_all rfl) (by rfl) T.b_all PyProof.Rows.boot_all (pa_cons (pe_lc (own := [("one", 3)]) (g := gName 3) (tt := tYes) rfl sc_all_within.nd (pi_tup (pv 0))
          (blkOk_by (own := [("one", 3)]) (N := ["some", "others", "other", "one"]) (sc := defScope s_all_within) (by decide +kernel))
          (fun _ _ _ _ _ => pg_name (i := 3) sc_all_within.nd rfl (by first | exact Or.inl rfl | exact Or.inr rfl)) (fun _ _ _ _ _ => pts_nil)
          (fun _ _ _ _ _ => (pe_callB (cr_anyK (K := K) rfl rfl) (by rfl) T.b_any PyProof.Rows.boot_any (pa_cons (pe_lc (own := [("other", 2)]) (g := gName 2) (tt := tYes) rfl sc_all_within.nd (pi_tupK (K := K) rfl (pv 1))
          (blkOk_by (own := [("other", 2)]) (N := ["some", "others", "other", "one"]) (by first | kernel_rfl | rfl))
          (fun _ _ _ _ _ => pg_name (i := 2) sc_all_within.nd rfl (by first | exact Or.inl rfl | exact Or.inr rfl)) (fun _ _ _ _ _ => pts_nil)
          (fun _ _ _ _ _ => (pe_call (ok_lies_within T) (hr.mono (by decide)) (by rfl) T.lies_within.g T.lies_within.F.kp T.lies_within.b .nil pass0 (pa_cons (pv 3) (pa_cons (pv 2) pa_nil))))) pa_nil)))) pa_nil))), ?_⟩
    dsimp only [cxOf]
    obtain ⟨bs, a1, a2, a3⟩ := dpT_at ha
    obtain ⟨cs, b1, b2, b3⟩ := dpT_at hb
    refine ⟨_, rfl, a, rfl, ⟨_, a1⟩, fun D nD => ?_⟩
    have hbl : (rfs bs).length = bs.length := List.length_map _
    have hbk : bs.length ≤ 20 := by have := hf.1; rw [← a2, List.length_map] at this; exact this
    have hcl : (rfs cs).length = cs.length := List.length_map _
    have hck : cs.length ≤ 20 := by have := hg.1; rw [← b2, List.length_map] at this; exact this
    refine lc_gen (walk_tup (xs := rfs bs)) (Same H) (fun j acc => acc = (bs.take j).map fun b => V.bl (kq.any fun q => (M23.runI q 0 b.2).isSome)) (sz (by rw [hbl]; omega)) (fun i acc e => by rw [e, List.length_map, List.length_take]; omega) rfl (same_upd nD) (fun _ _ h => same_up h nD) (fun _ h => sqT_same a1 h) (fun j x H4 H5 acc C N hj r hD hacc y c n => ?_) (fun H4 xs r hD hacc => ?_)
    · obtain ⟨rfl, yy⟩ := y
      rw [show (rfs bs)[j]? = (bs[j]?).map fun b => V.ref b.1 from List.getElem?_map] at yy
      obtain ⟨p, hp, rfl⟩ := Option.map_eq_some_iff.mp yy
      have hpm := List.mem_of_getElem? hp
      have hz2 := hf.2 p.2 (a2 ▸ List.mem_map_of_mem hpm)
      refine ⟨rfl, yes_te ?_⟩
      refine ⟨_, rfl, b, rfl, ⟨_, sqT_same b1 r⟩, fun D2 nD2 => ?_⟩
      have hD4 := (same_upd (o := HO.lst []) nD2) _ _ hD
      refine lc_gen (walk_tup (xs := rfs cs)) (Same H5) (fun j acc => acc = (cs.take j).map fun c => V.bl (M23.runI c.2 0 p.2).isSome) (sz (by rw [hcl]; omega)) (fun i acc e => by rw [e, List.length_map, List.length_take]; omega) rfl (same_upd nD2) (fun _ _ h => same_up h nD2) (fun _ h => sqT_same b1 (r.trans h)) (fun i x H6 H7 acc2 C2 N2 hi r2 hD2 hacc2 y2 c2 n2 => ?_) (fun H6 xs2 r2 hD2 hacc2 => ?_)
      · obtain ⟨rfl, yy2⟩ := y2
        rw [show (rfs cs)[i]? = (cs[i]?).map fun b => V.ref b.1 from List.getElem?_map] at yy2
        obtain ⟨o, ho, rfl⟩ := Option.map_eq_some_iff.mp yy2
        have hom := List.mem_of_getElem? ho
        have hz3 := hg.2 o.2 (b2 ▸ List.mem_map_of_mem hom)
        refine ⟨rfl, yes_te ?_⟩
        have sN := r.trans r2
        refine ⟨_, rfl, _, rfl, .ref p.1, .ref o.1, p.2, o.2, rfl, pd_dp (sqT_same (a3 p hpm) sN), pd_dp (sqT_same (b3 o hom) sN), Nat.le_trans hz2.1 (by decide), Nat.le_trans hz3.1 (by decide), fun y hy => (hz2.2 y hy).2, fun y hy => (hz3.2 y hy).2, fun H8 s8 => c2 _ _ (r2.trans s8) (s8 _ _ hD2) ?_⟩
        rw [hacc2, List.take_add_one, ho, List.map_append]
        rfl
      · subst hacc2
        rw [hcl, List.take_length] at hD2
        refine ⟨D2, cs.map fun c => (M23.runI c.2 0 p.2).isSome, rfl, .inl (.inl (by rw [hD2, List.map_map]; rfl)), ?_⟩
        refine c _ _ (r.trans r2) (r2 _ _ hD) ?_
        rw [hacc, List.take_add_one, hp, List.map_append]
        have e : (cs.map fun c => (M23.runI c.2 0 p.2).isSome).any id = kq.any fun q => (M23.runI q 0 p.2).isSome := by
          rw [← b2, List.any_map, List.any_map]
          rfl
        rw [e]
        rfl
    · subst hacc
      rw [hbl, List.take_length] at hD
      refine ⟨D, bs.map fun b => kq.any fun q => (M23.runI q 0 b.2).isSome, rfl, .inl (.inl (by rw [hD, List.map_map]; rfl)), ?_⟩
      have e : (bs.map fun b => kq.any fun q => (M23.runI q 0 b.2).isSome).all id = wit kp kq := by
        unfold wit
        rw [← a2, List.all_map, List.all_map]
        rfl
      rw [e]
      exact q _ r
def spIsW (K : PySem.W.Frag) (C : Addr) : Sp := fun vs H Q _ => ∃ (a b : Addr) (sg : List Nat) (kp kq : List M23.Pd), vs = [.ref a, .ref b] ∧ SumO C K H a sg kp ∧ SumO C K H b sg kq ∧ Few kp ∧ Few kq ∧ ∀ H', Same H H' → Q (.bl (wit kp kq)) H'
theorem ok_Sum_is_within (T : All K mg) : FnOk P w K mg base CX0 8 T.f_Sum_is_within T.d_Sum_is_within ["self", "other"] (spIsW K T.C_Sum) := by
  refine T.Sum_is_within.F.ok sc_Sum_is_within (fun vs H Q E h => ?_) (fun cdv A outer s H vs Q E hr h => ?_)
  · obtain ⟨a, b, sg, kp, kq, rfl, _⟩ := h
    rfl
  · obtain ⟨a, b, sg, kp, kq, rfl, hM, hN, hf, hg, q⟩ := h
    obtain ⟨dx, t, hat, hd⟩ := hM.at_
    obtain ⟨dx', t', hat', hd'⟩ := hN.at_
    refine ⟨_, pss_cons (ps_expr (pe_meth (pv 0) T.cl_Sum T.Sum_want_other.m (ok_Sum_want_other T) (hr.mono (by decide)) T.Sum_want_other.b .nil pass0 (pa_cons (pv 1) pa_nil)))
      (pss_one (ps_ret (pe_call (ok_all_within T) (hr.mono (by decide)) (by rfl) T.all_within.g T.all_within.F.kp T.all_within.b .nil pass0 (pa_cons (pe_fld (pv 0) rfl) (pa_cons (pe_fld (pv 1) rfl) pa_nil))))), ?_⟩
    refine ⟨_, rfl, a, dx, _, rfl, hat, rfl, _, rfl, a, b, sg, kp, kq, rfl, hM, hN, ?_⟩
    exact ⟨_, rfl, a, T.C_Sum, dx, _, _, rfl, hat, T.cl_Sum, T.n_Sum_own_products, rfl, _, rfl, b, T.C_Sum, dx', _, _, rfl, hat', T.cl_Sum, T.n_Sum_own_products, rfl, t, t', kp, kq, rfl, hd, hd', hf, hg, q⟩
theorem tcat {H : Hp} {t t' : Addr} {kp kq : List M23.Pd} (h : Dp K H (.ref t) (dPT kp)) (h' : Dp K H (.ref t') (dPT kq)) : ∃ xs ys : List V, SqT K H t xs ∧ SqT K H t' ys ∧ xs.length = kp.length ∧ ys.length = kq.length ∧
    (xs = [] → Bun K H (.ref t') (kp ++ kq)) ∧ (ys = [] → Bun K H (.ref t) (kp ++ kq)) ∧ ∀ H' p, Same H H' → H' p = some (.tup (xs ++ ys)) → Bun K H' (.ref p) (kp ++ kq) := by
  obtain ⟨bs, a1, a2, a3⟩ := dpT_at h
  obtain ⟨cs, b1, b2, b3⟩ := dpT_at h'
  refine ⟨_, _, a1, b1, by rw [← a2]; unfold rfs; rw [List.length_map, List.length_map], by rw [← b2]; unfold rfs; rw [List.length_map, List.length_map], fun e => ?_, fun e => ?_, fun H' p s hp => ⟨bs ++ cs, sq_tuple (.inl (.inl (by rw [hp]; unfold rfs; rw [List.map_append]))), by rw [List.map_append, a2, b2], fun b hb => ?_⟩⟩
  · have : bs = [] := List.map_eq_nil_iff.mp e
    subst this
    exact ⟨cs, sq_tuple b1, by rw [← a2, b2]; rfl, b3⟩
  · have : cs = [] := List.map_eq_nil_iff.mp e
    subst this
    exact ⟨bs, sq_tuple a1, by rw [← b2, a2]; simp, a3⟩
  · rcases List.mem_append.mp hb with hb | hb
    · exact sqT_same (a3 b hb) s
    · exact sqT_same (b3 b hb) s
def spOr (K : PySem.W.Frag) (C : Addr) : Sp := fun vs H Q _ => ∃ (a b : Addr) (sg : List Nat) (kp kq : List M23.Pd), vs = [.ref a, .ref b] ∧ SumO C K H a sg kp ∧ SumO C K H b sg kq ∧ SOk sg kp ∧ SOk sg kq ∧ kp.length + kq.length ≤ 20 ∧ NewS K C H Q sg (M23.kept (kp ++ kq))
theorem ok_Sum_or (T : All K mg) : FnOk P w K mg base CX0 10 T.f_Sum_or T.d_Sum_or ["self", "other"] (spOr K T.C_Sum) := by
  refine T.Sum_or.F.ok sc_Sum_or (fun vs H Q E h => ?_) (fun cdv A outer s H vs Q E hr h => ?_)
  · obtain ⟨a, b, sg, kp, kq, rfl, _⟩ := h
    rfl
  · obtain ⟨a, b, sg, kp, kq, rfl, hM, hN, hO, hP, hz, q⟩ := h
    obtain ⟨dx, t, hat, hd⟩ := hM.at_
    obtain ⟨dx', t', hat', hd'⟩ := hN.at_
    obtain ⟨xs, ys, h1, h2, l1, l2, hB1, hB2, hB⟩ := tcat hd hd'
    refine ⟨_, pss_cons (ps_expr (pe_meth (pv 0) T.cl_Sum T.Sum_want_other.m (ok_Sum_want_other T) (hr.mono (by decide)) T.Sum_want_other.b .nil pass0 (pa_cons (pv 1) pa_nil)))
      (pss_one (ps_ret (pe_make ⟨T.mk_Sum, T.Sum_init.m.at_, T.Sum_init.m.fn, T.kp_Sum⟩ (ok_Sum_init T) (hr.mono (by decide)) (by rfl) T.g_Sum T.Sum_init.b .nil pass0 (pa_cons (pe_fld (pv 0) rfl) (pa_cons (pe_op (op_catAK (K := K) rfl) (pe_fld (pv 0) rfl) (pe_fld (pv 1) rfl)) pa_nil))))), ?_⟩
    refine ⟨_, rfl, a, dx, _, rfl, hat, rfl, _, rfl, a, b, sg, kp, kq, rfl, hM, hN, ?_⟩
    refine ⟨_, rfl, a, T.C_Sum, dx, _, _, rfl, hat, T.cl_Sum, T.n_Sum_own_letters, rfl, _, rfl, a, T.C_Sum, dx, _, _, rfl, hat, T.cl_Sum, T.n_Sum_own_products, rfl, _, rfl, b, T.C_Sum, dx', _, _, rfl, hat', T.cl_Sum, T.n_Sum_own_products, rfl, ?_⟩
    have hpd : ∀ p ∈ kp ++ kq, PdOk sg p ∧ p.length ≤ 100 := fun p hp => by
      rcases List.mem_append.mp hp with hp | hp
      · exact ⟨(hO.pd p hp).1, Nat.le_trans (hO.pd p hp).2 (by decide)⟩
      · exact ⟨(hP.pd p hp).1, Nat.le_trans (hP.pd p hp).2 (by decide)⟩
    refine ⟨t, t', xs, ys, rfl, rfl, h1, h2, by rw [sizeLine_eq]; omega, fun e => ?_, fun _ e => ?_, fun _ _ p np => ?_⟩
    · intro x dx2 nx ndx _
      exact make_s hO.lets (hB1 e) (fun p hp => (hpd p hp).1) (by rw [List.length_append]; exact hz) (fun p hp => (hpd p hp).2) nx ndx (fun H2 s2 hM => q _ _ s2 nx hM)
    · intro x dx2 nx ndx _
      exact make_s hO.lets (hB2 e) (fun p hp => (hpd p hp).1) (by rw [List.length_append]; exact hz) (fun p hp => (hpd p hp).2) nx ndx (fun H2 s2 hM => q _ _ s2 nx hM)
    have sp := same_upd (o := .tup (xs ++ ys)) np
    intro x dx2 nx ndx _
    exact make_s hO.lets (hB _ p sp upd_same) (fun p hp => (hpd p hp).1) (by rw [List.length_append]; exact hz) (fun p hp => (hpd p hp).2) nx ndx (fun H2 s2 hM => q _ _ (sp.trans s2) (sp.free nx) hM)
def spWhole (K : PySem.W.Frag) (C : Addr) : Sp := fun vs H Q _ => ∃ (sg : List Nat), vs = [tx sg] ∧ Lets sg ∧ NewS K C H Q sg [[sg ++ [42]]]
theorem kept_whole {sg : List Nat} (hl : Lets sg) : M23.kept [[sg ++ [42]]] = [[sg ++ [42]]] := by
  rw [M91.kept_one]
  rw [M23.red_self ⟨fun x hx => by
    rw [List.mem_singleton.mp hx]
    exact .inr ⟨sg, (fun e => by have := hl.ne; rw [e] at this; cases this), hl.up, (fun h => by have := hl.az _ h; omega), rfl⟩, by simp [M23.Red]⟩]
theorem ok_Sum_whole (T : All K mg) : FnOk P w K mg base CX0 10 T.f_Sum_whole T.d_Sum_whole ["letters"] (spWhole K T.C_Sum) := by
  refine T.Sum_whole.F.ok sc_Sum_whole (fun vs H Q E h => ?_) (fun cdv A outer s H vs Q E hr h => ?_)
  · obtain ⟨sg, rfl, _⟩ := h
    rfl
  · obtain ⟨sg, rfl, hl, q⟩ := h
    obtain ⟨t1, hSTAR⟩ := T.c_STAR
    refine ⟨_, pss_cons (ps_expr (pe_call (ok_want_letters T) (hr.mono (by decide)) (by rfl) T.want_letters.g T.want_letters.F.kp T.want_letters.b .nil pass0 (pa_cons (pv 0) pa_nil)))
      (pss_one (ps_ret (pe_make ⟨T.mk_Sum, T.Sum_init.m.at_, T.Sum_init.m.fn, T.kp_Sum⟩ (ok_Sum_init T) (hr.mono (by decide)) (by rfl) T.g_Sum T.Sum_init.b .nil pass0 (pa_cons (pv 0) (pa_cons (pe_lst (pa_cons (pe_tup (pa_cons (pe_op op_addT (pv 0) (pe_glob (v := .str "*") rfl hSTAR ⟨_, rfl⟩)) pa_nil)) pa_nil)) pa_nil))))), ?_⟩
    refine ⟨_, rfl, sg, rfl, hl, fun H1 s1 => ?_⟩
    have hfew := hl.few
    refine ⟨_, rfl, _, rfl, sg, [42], rfl, rfl, by rw [sizeLine_eq, List.length_singleton]; omega, by show 1 ≤ sizeLine; decide, fun p np => ⟨by show 1 ≤ sizeLine; decide, fun l nl => ?_⟩⟩
    have s2 := same_upd (o := .tup [tx (sg ++ [42])]) np
    have s3 := same_upd (o := .lst [.ref p]) nl
    have s13 := s1.trans (s2.trans s3)
    intro x dx2 nx ndx _
    have hp : PdOk sg [sg ++ [42]] := fun y hy => by
      rw [List.mem_singleton.mp hy]
      exact .inr ⟨sg, (fun e => by have := hl.ne; rw [e] at this; cases this), hl.up, fun c hc => hc, rfl⟩
    refine make_s hl (ps := [[sg ++ [42]]]) ⟨[(p, [sg ++ [42]])], sq_list (.inl (.inl upd_same)), rfl, fun b hb => by rw [List.mem_singleton.mp hb]; exact .inl (.inl (s3 _ _ upd_same))⟩ (fun p hp' => by rw [List.mem_singleton.mp hp']; exact hp) (by show 1 ≤ 20; decide) (fun p hp => by rw [List.mem_singleton.mp hp]; show 1 ≤ 100; decide) nx ndx (fun H2 s2' hM => q _ _ (s13.trans s2') (s13.free nx) (by rw [kept_whole hl] at hM; exact hM))
end
end Lw
namespace Lw
open PySem PySem.Spec PyProof.Rows L3
open L2 hiding del del_same del_ne
theorem pe_xgetK {X : Cx} {o i : Expr} {td ty : TE} {pos : Pos} {P : Program} {w : World} {K : PySem.W.Frag} (hP : X.prog = P) (hw : X.w = w) (hK : X.K = K) (hu : X.A.units + 64 < cLine) (ho : PE X o td) (hi : PE X i ty) (hs : L2.NoSl i) : PE X (.Subscript o i pos) (tXGet P w K td ty) := by
  subst hP hw hK
  exact pe_xget hu ho hi hs
/-- a pair of numbers as a key -/
def k2 (a b : Int) : PyData := .tuple [.int a, .int b]
theorem k2_able (a b : Int) : keyable (k2 a b) = true := rfl
theorem k2_deep (a b : Int) : (keyN (k2 a b)).depth ≤ 8 := by
  unfold k2
  simp [keyN, keyNs, NestedKey.depth, NestedKey.depthAll]
theorem k2_inj {a b c d : Int} (h : keyN (k2 a b) = keyN (k2 c d)) : a = c ∧ b = d := by
  unfold k2 at h
  simp only [keyN, keyNs] at h
  injection h with h
  injection h with h1 h2
  injection h2 with h2 _
  injection h1 with h1
  injection h2 with h2
  exact ⟨h1, h2⟩
theorem dp_k2 {K : PySem.W.Frag} {H : Hp} {p : Addr} {a b : Int} (h : SqT K H p [.int a, .int b]) : Dp K H (.ref p) (k2 a b) := .tup h (.cons (.int a) (.cons (.int b) .nil))
/-- the answers of three places behind -/
def lat (a1 a2 a3 : Addr) (v1 v2 v3 : V) : List EntN := [(k2 1 0, a1, v1), (k2 0 1, a2, v2), (k2 1 1, a3, v3)]
theorem valN_cons {d : PyData} {a : Addr} {v : V} {es : List EntN} {k : NestedKey} : valN ((d, a, v) :: es) k = if keyN d = k then some v else valN es k := by
  unfold valN
  rw [List.find?_cons]
  by_cases h : keyN d = k
  · rw [if_pos h]; simp [h]
  · rw [if_neg h]; simp [h]
theorem lat_10 {a1 a2 a3 : Addr} {v1 v2 v3 : V} : valN (lat a1 a2 a3 v1 v2 v3) (keyN (k2 1 0)) = some v1 := by
  unfold lat
  rw [valN_cons, if_pos rfl]
theorem lat_01 {a1 a2 a3 : Addr} {v1 v2 v3 : V} : valN (lat a1 a2 a3 v1 v2 v3) (keyN (k2 0 1)) = some v2 := by
  unfold lat
  rw [valN_cons, if_neg (fun e => by have := (k2_inj e).1; omega), valN_cons, if_pos rfl]
section
variable {P : Program} {w : World} {K : PySem.W.Frag} {mg : Str → Option Value} {base : Heap}
theorem sqT_upL {H : Hp} {D c : Addr} {xs ys : List V} {o : HO} (hD : H D = some (.lst ys)) (h : SqT K H c xs) : SqT K (upd H D o) c xs := by
  rcases h with (h | ⟨o', h⟩) | h
  · exact .inl (.inl (by rw [upd_ne (ne_of h hD fun z => by cases z)]; exact h))
  · exact .inl (.inr ⟨o', by rw [upd_ne (ne_of h hD fun z => by cases z)]; exact h⟩)
  · exact .inr h
def spMet (P : Program) (w : World) (K : PySem.W.Frag) : Sp := fun vs H Q _ => ∃ (v u : V) (d a1 a2 a3 l1 l2 : Addr) (v3 : V) (sg : List Nat) (x : M23.Pc) (r : M23.Pd) (bs cs : List AP), vs = [v, u, .ref d] ∧
  Dp K H v (M23.dP (x :: r)) ∧ Dp K H u (M23.dP [sg ++ [42]]) ∧ Lets sg ∧ PcOk sg x ∧ H d = some (TN P w d (lat a1 a2 a3 (.ref l1) (.ref l2) v3)) ∧ Keys K H (lat a1 a2 a3 (.ref l1) (.ref l2) v3) ∧
  H l1 = some (.lst (rfs bs)) ∧ Prods K H bs ∧ H l2 = some (.lst (rfs cs)) ∧ Prods K H cs ∧ cs.map Prod.snd = [[]] ∧ bs.length ≤ 10 ∧ (∀ b ∈ bs, b.2.length ≤ 50) ∧
  ∀ H' p (ds : List AP), Same H H' → H p = none → H' p = some (.lst (rfs ds)) → Prods K H' ds → ds.map Prod.snd = M91.met x (bs.map Prod.snd) → Q (.ref p) H'
theorem ok_met_behind (T : All K mg) : FnOk P w K mg base CX0 4 T.f_met_behind T.d_met_behind ["one", "other", "laters"] (spMet P w K) := by
  refine T.met_behind.F.ok sc_met_behind (fun vs H Q E h => ?_) (fun cdv A outer s H vs Q E hr h => ?_)
  · obtain ⟨v, u, d, a1, a2, a3, l1, l2, v3, sg, x, r, bs, cs, rfl, _⟩ := h
    rfl
  · obtain ⟨v, u, d, a1, a2, a3, l1, l2, v3, sg, x, r, bs, cs, rfl, hv, hu, hl, hx, hd, hk, hS1, hp1, hS2, hp2, hcs, hz, hz2, q⟩ := h
    obtain ⟨t1, hSTAR⟩ := T.c_STAR
    refine ⟨_, pss_cons (ps_asg (pe_tup (pa_cons (pe_ix ix_tup (pv 0) pe_int (fun _ _ => rfl)) (pa_cons (pe_ix ix_tup (pv 1) pe_int (fun _ _ => rfl)) pa_nil))) (pg_tup rfl (pgs_cons (pg_name (i := 3) sc_met_behind.nd rfl (by first | exact Or.inl rfl | exact Or.inr rfl)) (pgs_cons (pg_name (i := 4) sc_met_behind.nd rfl (by first | exact Or.inl rfl | exact Or.inr rfl)) pgs_nil))))
      (pss_cons (ps_if (PW.pt (pw_and (pt_val (pe_call (ok_is_star T) (hr.mono (by decide)) (by rfl) T.is_star.g T.is_star.F.kp T.is_star.b .nil pass0 (pa_cons (pv 3) pa_nil))) (pw_and1 (pt_val (pe_call (ok_is_star T) (hr.mono (by decide)) (by rfl) T.is_star.g T.is_star.F.kp T.is_star.b .nil pass0 (pa_cons (pv 4) pa_nil)))))) (pss_cons (ps_set (i := 5) sc_met_behind.nd rfl (by first | exact Or.inl rfl | exact Or.inr rfl) (pe_join pe_str (pe_lc (own := [("letter", 6)]) (g := gName 6) rfl sc_met_behind.nd (pi_str (pe_call (ok_letters_in T) (hr.mono (by decide)) (by rfl) T.letters_in.g T.letters_in.F.kp T.letters_in.b .nil pass0 (pa_cons (pv 3) pa_nil)))
          (blkOk_by (own := [("letter", 6)]) (N := ["one", "other", "laters", "first", "second", "common", "letter", "star", "product"]) (sc := defScope s_met_behind) (by decide +kernel))
          (fun _ _ _ _ _ => pg_name (i := 6) sc_met_behind.nd rfl (by first | exact Or.inl rfl | exact Or.inr rfl)) (fun _ _ _ _ _ => (pts_one (pt_cmpR op_in_sign (pv 6) (pe_call (ok_letters_in T) (hr.mono (by decide)) (by rfl) T.letters_in.g T.letters_in.F.kp T.letters_in.b .nil pass0 (pa_cons (pv 4) pa_nil)) (by rfl))))
          (fun _ _ _ _ _ => (pv 6)))))
      (pss_cons (ps_set (i := 7) sc_met_behind.nd rfl (by first | exact Or.inl rfl | exact Or.inr rfl) (pe_ifExp (pt_cmpR op_ne (pv 5) pe_str (nomark _)) (pe_tup (pa_cons (pe_op op_addT (pv 5) (pe_glob (v := .str "*") rfl hSTAR ⟨_, rfl⟩)) pa_nil)) (pe_tup pa_nil)))
      (pss_one (ps_ret (pe_lc (own := [("product", 8)]) (g := gName 8) (tt := tYes) rfl sc_met_behind.nd (pi_list (pe_op op_cat (pe_xgetK (P := P) (w := w) (K := K) rfl rfl rfl (u64 hr) (pv 2) (pe_tup (pa_cons pe_int (pa_cons pe_int pa_nil))) (fun _ _ => rfl)) (pe_xgetK (P := P) (w := w) (K := K) rfl rfl rfl (u64 hr) (pv 2) (pe_tup (pa_cons pe_int (pa_cons pe_int pa_nil))) (fun _ _ => rfl))))
          (blkOk_by (own := [("product", 8)]) (N := ["one", "other", "laters", "first", "second", "common", "letter", "star", "product"]) (sc := defScope s_met_behind) (by decide +kernel))
          (fun _ _ _ _ _ => pg_name (i := 8) sc_met_behind.nd rfl (by first | exact Or.inl rfl | exact Or.inr rfl)) (fun _ _ _ _ _ => pts_nil)
          (fun _ _ _ _ _ => (pe_op (op_catAK (K := K) rfl) (pv 7) (pv 8)))))))) pss_nil)
      (pss_cons (ps_if (PW.pt (pw_and (pt_val (pe_call (ok_holds T) (hr.mono (by decide)) (by rfl) T.holds.g T.holds.F.kp T.holds.b .nil pass0 (pa_cons (pv 3) (pa_cons (pv 4) pa_nil)))) (pw_and1 (pt_val (pe_call (ok_holds T) (hr.mono (by decide)) (by rfl) T.holds.g T.holds.F.kp T.holds.b .nil pass0 (pa_cons (pv 4) (pa_cons (pv 3) pa_nil))))))) (pss_one (ps_ret (pe_lc (own := [("product", 8)]) (g := gName 8) (tt := tYes) rfl sc_met_behind.nd (pi_list (pe_xgetK (P := P) (w := w) (K := K) rfl rfl rfl (u64 hr) (pv 2) (pe_tup (pa_cons pe_int (pa_cons pe_int pa_nil))) (fun _ _ => rfl)))
          (blkOk_by (own := [("product", 8)]) (N := ["one", "other", "laters", "first", "second", "common", "letter", "star", "product"]) (sc := defScope s_met_behind) (by decide +kernel))
          (fun _ _ _ _ _ => pg_name (i := 8) sc_met_behind.nd rfl (by first | exact Or.inl rfl | exact Or.inr rfl)) (fun _ _ _ _ _ => pts_nil)
          (fun _ _ _ _ _ => (pe_op (op_catAK (K := K) rfl) (pe_tup (pa_cons (pv 3) pa_nil)) (pv 8)))))) pss_nil)
      (pss_cons (ps_if (PW.pt (pw_and (pt_val (pe_call (ok_is_star T) (hr.mono (by decide)) (by rfl) T.is_star.g T.is_star.F.kp T.is_star.b .nil pass0 (pa_cons (pv 4) pa_nil))) (pw_and1 (pt_val (pe_call (ok_holds T) (hr.mono (by decide)) (by rfl) T.holds.g T.holds.F.kp T.holds.b .nil pass0 (pa_cons (pv 4) (pa_cons (pv 3) pa_nil))))))) (pss_one (ps_ret (pe_lc (own := [("product", 8)]) (g := gName 8) (tt := tYes) rfl sc_met_behind.nd (pi_list (pe_xgetK (P := P) (w := w) (K := K) rfl rfl rfl (u64 hr) (pv 2) (pe_tup (pa_cons pe_int (pa_cons pe_int pa_nil))) (fun _ _ => rfl)))
          (blkOk_by (own := [("product", 8)]) (N := ["one", "other", "laters", "first", "second", "common", "letter", "star", "product"]) (sc := defScope s_met_behind) (by decide +kernel))
          (fun _ _ _ _ _ => pg_name (i := 8) sc_met_behind.nd rfl (by first | exact Or.inl rfl | exact Or.inr rfl)) (fun _ _ _ _ _ => pts_nil)
          (fun _ _ _ _ _ => (pe_op (op_catAK (K := K) rfl) (pe_tup (pa_cons (pv 3) pa_nil)) (pv 8)))))) pss_nil)
      (pss_cons (ps_if (PW.pt (pw_and (pt_val (pe_call (ok_is_star T) (hr.mono (by decide)) (by rfl) T.is_star.g T.is_star.F.kp T.is_star.b .nil pass0 (pa_cons (pv 3) pa_nil))) (pw_and1 (pt_val (pe_call (ok_holds T) (hr.mono (by decide)) (by rfl) T.holds.g T.holds.F.kp T.holds.b .nil pass0 (pa_cons (pv 3) (pa_cons (pv 4) pa_nil))))))) (pss_one (ps_ret (pe_lc (own := [("product", 8)]) (g := gName 8) (tt := tYes) rfl sc_met_behind.nd (pi_list (pe_xgetK (P := P) (w := w) (K := K) rfl rfl rfl (u64 hr) (pv 2) (pe_tup (pa_cons pe_int (pa_cons pe_int pa_nil))) (fun _ _ => rfl)))
          (blkOk_by (own := [("product", 8)]) (N := ["one", "other", "laters", "first", "second", "common", "letter", "star", "product"]) (sc := defScope s_met_behind) (by decide +kernel))
          (fun _ _ _ _ _ => pg_name (i := 8) sc_met_behind.nd rfl (by first | exact Or.inl rfl | exact Or.inr rfl)) (fun _ _ _ _ _ => pts_nil)
          (fun _ _ _ _ _ => (pe_op (op_catAK (K := K) rfl) (pe_tup (pa_cons (pv 4) pa_nil)) (pv 8)))))) pss_nil)
      (pss_one (ps_ret (pe_op op_cat (pe_xgetK (P := P) (w := w) (K := K) rfl rfl rfl (u64 hr) (pv 2) (pe_tup (pa_cons pe_int (pa_cons pe_int pa_nil))) (fun _ _ => rfl)) (pe_xgetK (P := P) (w := w) (K := K) rfl rfl rfl (u64 hr) (pv 2) (pe_tup (pa_cons pe_int (pa_cons pe_int pa_nil))) (fun _ _ => rfl))))))))), ?_⟩
    dsimp only [cxOf]
    obtain ⟨av, rfl, hvt⟩ := dp_pd hv
    obtain ⟨au, rfl, hut⟩ := dp_pd hu
    have hxl : x.length ≤ 10 := by have := hx.len hl; omega
    refine ⟨_, rfl, av, _, _, _, rfl, rfl, hvt, atI_0, ?_⟩
    refine ⟨_, rfl, au, _, _, _, rfl, rfl, hut, atI_0, ?_⟩
    refine ⟨by show 2 ≤ sizeLine; decide, fun t nt => ?_⟩
    have st := same_upd (o := .tup [tx x, tx (sg ++ [42])]) nt
    have ht := upd_same (H := H) (a := t) (o := .tup [tx x, tx (sg ++ [42])])
    refine ⟨t, _, rfl, .inl (.inl ht), rfl, _, _, rfl, _, _, rfl, rfl, ?_⟩
    generalize upd H t (.tup [tx x, tx (sg ++ [42])]) = H1 at *
    have hlw : (sg ++ [42]).length ≤ 10 := by have := hl.few; rw [List.length_append, List.length_singleton]; omega
    have isw : M23.isS (sg ++ [42]) = true := M23.isS_star sg
    have ltw : M23.lt (sg ++ [42]) = sg := M23.lt_star sg
    have hd1 := st _ _ hd
    have g1 : ∀ (H2 : Hp) (p : Addr), Same H H2 → H2 p = some (.tup [.int 1, .int 0]) → XGet P w K H2 d (.ref p) (some (.ref l1)) := fun H2 p s2 hp => .inr ⟨_, k2 1 0, p, s2 _ _ hd, rfl, dp_k2 (.inl (.inl hp)), k2_able 1 0, k2_deep 1 0, hk.same s2, lat_10⟩
    have g2 : ∀ (H2 : Hp) (p : Addr), Same H H2 → H2 p = some (.tup [.int 0, .int 1]) → XGet P w K H2 d (.ref p) (some (.ref l2)) := fun H2 p s2 hp => .inr ⟨_, k2 0 1, p, s2 _ _ hd, rfl, dp_k2 (.inl (.inl hp)), k2_able 0 1, k2_deep 0 1, hk.same s2, lat_01⟩
    have hcl : cs.length = 1 := by have := congrArg List.length hcs; simpa using this
    refine ⟨_, rfl, x, rfl, by omega, ?_⟩
    cases hst : M23.isS x with
    | true =>
      refine ⟨true, rfl, ite_t rfl ?_⟩
      refine ⟨_, rfl, sg ++ [42], rfl, by omega, true, by rw [isw], ite_t rfl ?_⟩
      refine ⟨⟨_, rfl⟩, _, rfl, x, rfl, by omega, _, rfl, fun D nD => ?_⟩
      obtain ⟨l, hl0, hlu, hls, ex⟩ : ∃ l : List Nat, l ≠ [] ∧ l.Pairwise (· < ·) ∧ (∀ c ∈ l, c ∈ sg) ∧ x = l ++ [42] := by
        rcases hx with ⟨c, hc, e⟩ | h
        · subst e
          rw [M23.isS_one (fun e => hl.no (e ▸ hc))] at hst
          cases hst
        · exact h
      have elt : M23.lt x = l := by rw [ex]; exact M23.lt_star l
      have hll : l.length ≤ 9 := by rw [ex, List.length_append, List.length_singleton] at hxl; omega
      rw [elt]
      refine lc_gen (walk_str (z := tS l)) (Same H1) (fun j acc => acc = (l.take j).map fun c => tx [c]) ?_ (fun i acc e => by rw [e, List.length_map, List.length_take]; omega) rfl (same_upd nD) (fun _ _ h => same_up h nD) (fun _ _ => trivial) (fun j y H4 H5 acc C N hj rs hD ha y c n => ?_) (fun H4 xs rs hD ha => ?_)
      · show (l.toArray).size ≤ sizeLine
        rw [List.size_toArray, sizeLine_eq]
        omega
      · obtain ⟨rfl, ch, hch, rfl⟩ := y
        have hch : l.toArray[j]? = some ch := hch
        rw [List.getElem?_toArray] at hch
        have hcs2 : ch ∈ sg := hls ch (List.mem_of_getElem? hch)
        refine ⟨rfl, ?_⟩
        refine ⟨_, rfl, _, rfl, sg ++ [42], rfl, by omega, ?_⟩
        rw [ltw]
        refine ⟨ch, tS sg, rfl, rfl, true, congrArg V.bl (decide_eq_true hcs2), ite_t rfl ?_⟩
        refine ⟨_, rfl, c _ _ rs hD ?_⟩
        rw [ha, List.take_add_one, hch, List.map_append]
        rfl
      · subst ha
        have hz3 : (tS l).cps.size = l.length := List.size_toArray
        rw [hz3, List.take_length] at hD
        have hfl : (l.map fun c => [c]).flatten = l := by
          clear hl0 hlu hls ex elt hll hD nD hz3
          induction l with
          | nil => rfl
          | cons a l ih => show a :: (l.map fun c => [c]).flatten = _; rw [ih]
        have hln : ∀ m ∈ l.map (fun c => [c]), m.length ≤ 1 := fun m hm => by
          obtain ⟨c, _, rfl⟩ := List.mem_map.mp hm
          exact Nat.le_refl _
        have hs3 := sum_len 1 _ hln
        refine ⟨_, D, (l.map fun c => [c]).map tS, rfl, rfl, .inl (.inl (.inl (by rw [map_tx, List.map_map]; exact hD))), ?_, ?_⟩
        · rw [List.length_map, List.length_map, show (("" : Str)).length = 0 from rfl]
          rw [List.length_map] at hs3
          omega
        rw [join_e, hfl]
        have hne : (tx l = V.str "") = False := by
          refine eq_false fun e => hl0 ?_
          have e2 : tS l = ("" : Str) := V.str.inj e
          have e3 : l.toArray = #[] := congrArg Str.cps e2
          simpa using congrArg Array.toList e3
        refine ⟨_, rfl, rfl, _, rfl, ite_t (by simp only [hne]; rfl) ?_⟩
        refine ⟨_, rfl, l, [42], rfl, rfl, by rw [sizeLine_eq, List.length_singleton]; omega, by show 1 ≤ sizeLine; decide, fun sp nsp => ?_⟩
        rw [← ex]
        have ssp := same_upd (o := .tup [tx x]) nsp
        have hsp := upd_same (H := H4) (a := sp) (o := .tup [tx x])
        have s4 := st.trans (rs.trans ssp)
        generalize upd H4 sp (.tup [tx x]) = H6 at *
        dsimp only [gName]
        refine ⟨_, rfl, by show 2 ≤ sizeLine; decide, fun p1 n1 => ⟨d, .ref l1, rfl, g1 _ p1 (s4.trans (same_upd n1)) upd_same, ?_⟩⟩
        have s5 := s4.trans (same_upd (o := .tup [.int 1, .int 0]) n1)
        have hsp5 := (same_upd (o := .tup [.int 1, .int 0]) n1) _ _ hsp
        generalize upd H6 p1 (.tup [.int 1, .int 0]) = H7 at *
        refine ⟨_, rfl, by show 2 ≤ sizeLine; decide, fun p2 n2 => ⟨d, .ref l2, rfl, g2 _ p2 (s5.trans (same_upd n2)) upd_same, ?_⟩⟩
        have s6 := s5.trans (same_upd (o := .tup [.int 0, .int 1]) n2)
        have hsp6 := (same_upd (o := .tup [.int 0, .int 1]) n2) _ _ hsp5
        generalize upd H7 p2 (.tup [.int 0, .int 1]) = H8 at *
        have e0 : rfs bs ++ rfs cs = rfs (bs ++ cs) := by unfold rfs; rw [List.map_append]
        have zb : (rfs bs).length = bs.length := by unfold rfs; rw [List.length_map]
        have zc : (rfs cs).length = cs.length := by unfold rfs; rw [List.length_map]
        refine ⟨l1, l2, _, _, rfl, rfl, s6 _ _ hS1, s6 _ _ hS2, by rw [zb, zc, sizeLine_eq]; omega, fun p3 n3 => ?_⟩
        rw [e0]
        have s7 := s6.trans (same_upd (o := .lst (rfs (bs ++ cs))) n3)
        have hsp7 := (same_upd (o := .lst (rfs (bs ++ cs))) n3) _ _ hsp6
        have hp3 := upd_same (H := H8) (a := p3) (o := .lst (rfs (bs ++ cs)))
        generalize upd H8 p3 (.lst (rfs (bs ++ cs))) = H9 at *
        have hpa : Prods K H9 (bs ++ cs) := fun b hb => by
          rcases List.mem_append.mp hb with hb | hb
          · exact sqT_same (hp1 b hb) s7
          · exact sqT_same (hp2 b hb) s7
        have hza : ∀ b ∈ bs ++ cs, b.2.length ≤ 50 := fun b hb => by
          rcases List.mem_append.mp hb with hb | hb
          · exact hz2 b hb
          · have hm : b.2 ∈ cs.map Prod.snd := List.mem_map_of_mem hb
            rw [hcs, List.mem_singleton] at hm
            rw [hm]
            exact Nat.zero_le _
        have hla : (bs ++ cs).length ≤ 11 := by rw [List.length_append]; omega
        have hzr : (rfs (bs ++ cs)).length = (bs ++ cs).length := by unfold rfs; rw [List.length_map]
        refine ⟨p3, rfl, ⟨_, .inl (.inl hp3)⟩, fun D2 nD2 => ?_⟩
        refine lc_it (walk_list (xs := rfs (bs ++ cs))) (fun i H' => Same H9 H' ∧ ∃ ms : List AP, H' D2 = some (.lst (rfs ms)) ∧ ms.map Prod.snd = ((bs ++ cs).map Prod.snd |>.take i).map (x :: ·) ∧ Prods K H' ms) ⟨same_upd nD2, [], upd_same, rfl, fun b h => nomatch h⟩ (fun i H' _ pp => .inl (.inl (pp.1 _ _ hp3))) (fun i y H10 H11 hi pp yy => ?_) (fun H10 pp => ?_)
        · obtain ⟨r10, ms, hDm, hms, hPm⟩ := pp
          obtain ⟨rfl, yy⟩ := yy
          rw [show (rfs (bs ++ cs))[i]? = ((bs ++ cs)[i]?).map fun b => V.ref b.1 from List.getElem?_map] at yy
          obtain ⟨b, hb, rfl⟩ := Option.map_eq_some_iff.mp yy
          have hbm := List.mem_of_getElem? hb
          have hmz : ms.length ≤ 11 := by have := congrArg List.length hms; rw [List.length_map, List.length_map, List.length_take, List.length_map] at this; omega
          have hnx : ((bs ++ cs).map Prod.snd |>.take (i + 1)).map (x :: ·) = ms.map Prod.snd ++ [x :: b.2] := by
            rw [hms, List.take_add_one, List.getElem?_map, hb, List.map_append]
            rfl
          have hbt := sqT_same (hpa b hbm) r10
          refine ⟨rfl, yes_te ?_⟩
          refine ⟨_, rfl, _, rfl, sp, b.1, _, _, rfl, rfl, .inl (.inl (r10 _ _ hsp7)), hbt, by rw [List.length_map, sizeLine_eq]; have := hza b hbm; show 1 + _ ≤ _; omega, (fun e => by cases e), (fun _ e => ?_), (fun _ _ p4 n4 => ?_)⟩
          · have eb : b.2 = [] := List.map_eq_nil_iff.mp e
            refine ⟨_, hDm, by unfold rfs; rw [List.length_map, sizeLine_eq]; omega, same_up r10 nD2, ms ++ [(sp, [x])], by rw [upd_same]; unfold rfs; rw [List.map_append]; rfl, by rw [hnx, List.map_append, eb]; rfl, fun m hm => ?_⟩
            rcases List.mem_append.mp hm with hm | hm
            · exact sqT_upL hDm (hPm m hm)
            · rw [List.mem_singleton.mp hm]
              exact sqT_upL hDm (.inl (.inl (r10 _ _ hsp7)))
          · have s4' := same_upd (o := .tup ([tx x] ++ b.2.map tx)) n4
            have hD4 := s4' _ _ hDm
            refine ⟨_, hD4, by unfold rfs; rw [List.length_map, sizeLine_eq]; omega, same_up (r10.trans s4') nD2, ms ++ [(p4, x :: b.2)], by rw [upd_same]; unfold rfs; rw [List.map_append]; rfl, by rw [hnx, List.map_append]; rfl, fun m hm => ?_⟩
            rcases List.mem_append.mp hm with hm | hm
            · exact sqT_upL hD4 (sqT_same (hPm m hm) s4')
            · rw [List.mem_singleton.mp hm]
              exact sqT_upL hD4 (.inl (.inl upd_same))
        · obtain ⟨r10, ms, hDm, hms, hPm⟩ := pp
          rw [hzr, show (bs ++ cs).length = ((bs ++ cs).map Prod.snd).length by rw [List.length_map], List.take_length] at hms
          refine q _ D2 ms (s7.trans r10) (s7.free nD2) hDm hPm ?_
          rw [hms, List.map_append, hcs]
          unfold M91.met
          rw [if_pos hst]
    | false =>
      refine ⟨false, rfl, ite_f rfl ?_⟩
      obtain ⟨c, hc, ex⟩ : ∃ c ∈ sg, x = [c] := by
        rcases hx with h | ⟨l, _, _, _, e⟩
        · exact h
        · rw [e, M23.isS_star] at hst
          cases hst
      have hc42 : c ≠ 42 := fun e => hl.no (e ▸ hc)
      have hn1 : M23.holds x (sg ++ [42]) = false := by
        unfold M23.holds
        rw [hst]
        refine decide_eq_false fun e => ?_
        rw [ex] at e
        have := congrArg List.length e
        rw [List.length_append, List.length_singleton, List.length_singleton] at this
        have := hl.ne
        omega
      have hn2 : M23.holds (sg ++ [42]) x = true := by
        unfold M23.holds
        rw [isw, ltw, ex, M23.lt_one hc42]
        simpa using hc
      refine ⟨_, rfl, _, rfl, x, sg ++ [42], rfl, by omega, by omega, fun H2 s2 => ⟨false, by rw [hn1], ite_f rfl ?_⟩⟩
      have s4 := st.trans s2
      refine ⟨_, rfl, sg ++ [42], rfl, by omega, true, by rw [isw], ite_t rfl ?_⟩
      refine ⟨_, rfl, _, rfl, sg ++ [42], x, rfl, by omega, by omega, fun H3 s3 => ⟨true, by rw [hn2], ite_t rfl ?_⟩⟩
      have s5 := s4.trans s3
      refine ⟨_, rfl, by show 2 ≤ sizeLine; decide, fun p1 n1 => ⟨d, .ref l1, rfl, g1 _ p1 (s5.trans (same_upd n1)) upd_same, ?_⟩⟩
      have s6 := s5.trans (same_upd (o := .tup [.int 1, .int 0]) n1)
      generalize upd H3 p1 (.tup [.int 1, .int 0]) = H9 at *
      have hpa := hp1.same s6
      have hzr : (rfs bs).length = bs.length := by unfold rfs; rw [List.length_map]
      have hp3 := s6 _ _ hS1
      refine ⟨l1, rfl, ⟨_, .inl (.inl hp3)⟩, fun D2 nD2 => ?_⟩
      refine lc_it (walk_list (xs := rfs bs)) (fun i H' => Same H9 H' ∧ ∃ ms : List AP, H' D2 = some (.lst (rfs ms)) ∧ ms.map Prod.snd = (bs.map Prod.snd |>.take i).map (x :: ·) ∧ Prods K H' ms) ⟨same_upd nD2, [], upd_same, rfl, fun b h => nomatch h⟩ (fun i H' _ pp => .inl (.inl (pp.1 _ _ hp3))) (fun i y H10 H11 hi pp yy => ?_) (fun H10 pp => ?_)
      · obtain ⟨r10, ms, hDm, hms, hPm⟩ := pp
        obtain ⟨rfl, yy⟩ := yy
        rw [show (rfs bs)[i]? = (bs[i]?).map fun b => V.ref b.1 from List.getElem?_map] at yy
        obtain ⟨b, hb, rfl⟩ := Option.map_eq_some_iff.mp yy
        have hbm := List.mem_of_getElem? hb
        have hmz : ms.length ≤ 11 := by have := congrArg List.length hms; rw [List.length_map, List.length_map, List.length_take, List.length_map] at this; omega
        have hnx : (bs.map Prod.snd |>.take (i + 1)).map (x :: ·) = ms.map Prod.snd ++ [x :: b.2] := by
          rw [hms, List.take_add_one, List.getElem?_map, hb, List.map_append]
          rfl
        refine ⟨rfl, yes_te ?_⟩
        refine ⟨_, rfl, by show 1 ≤ sizeLine; decide, fun sp nsp => ?_⟩
        have ssp := same_upd (o := .tup [tx x]) nsp
        have hsp := upd_same (H := H11) (a := sp) (o := .tup [tx x])
        have r11 := r10.trans ssp
        have hDs := ssp _ _ hDm
        have hPs := hPm.same ssp
        generalize upd H11 sp (.tup [tx x]) = H12 at *
        have hbt := sqT_same (hpa b hbm) r11
        refine ⟨_, rfl, sp, b.1, _, _, rfl, rfl, .inl (.inl hsp), hbt, by rw [List.length_map, sizeLine_eq]; have := hz2 b hbm; show 1 + _ ≤ _; omega, (fun e => by cases e), (fun _ e => ?_), (fun _ _ p4 n4 => ?_)⟩
        · have eb : b.2 = [] := List.map_eq_nil_iff.mp e
          refine ⟨_, hDs, by unfold rfs; rw [List.length_map, sizeLine_eq]; omega, same_up r11 nD2, ms ++ [(sp, [x])], by rw [upd_same]; unfold rfs; rw [List.map_append]; rfl, by rw [hnx, List.map_append, eb]; rfl, fun m hm => ?_⟩
          rcases List.mem_append.mp hm with hm | hm
          · exact sqT_upL hDs (hPs m hm)
          · rw [List.mem_singleton.mp hm]
            exact sqT_upL hDs (.inl (.inl hsp))
        · have s4' := same_upd (o := .tup ([tx x] ++ b.2.map tx)) n4
          have hD4 := s4' _ _ hDs
          refine ⟨_, hD4, by unfold rfs; rw [List.length_map, sizeLine_eq]; omega, same_up (r11.trans s4') nD2, ms ++ [(p4, x :: b.2)], by rw [upd_same]; unfold rfs; rw [List.map_append]; rfl, by rw [hnx, List.map_append]; rfl, fun m hm => ?_⟩
          rcases List.mem_append.mp hm with hm | hm
          · exact sqT_upL hD4 (sqT_same (hPs m hm) s4')
          · rw [List.mem_singleton.mp hm]
            exact sqT_upL hD4 (.inl (.inl upd_same))
      · obtain ⟨r10, ms, hDm, hms, hPm⟩ := pp
        rw [hzr, show bs.length = (bs.map Prod.snd).length by rw [List.length_map], List.take_length] at hms
        refine q _ D2 ms (s6.trans r10) (s6.free nD2) hDm hPm ?_
        rw [hms]
        unfold M91.met
        rw [if_neg (by rw [hst]; decide)]
end
end Lw
namespace Lw
open PySem PySem.Spec PyProof.Rows L3
open L2 hiding del del_same del_ne
/-- what lies at a pair of places -/
def tb (p : M23.Pd) (h t : Nat) : List M23.Pd := if t = 0 then M91.mt (p.drop h) else [[]]
section
variable {P : Program} {w : World} {K : PySem.W.Frag} {mg : Str → Option Value} {base : Heap}
theorem delLe {H : Hp} {d : Addr} : Same (del H d) H := fun b o e => by
  by_cases h : b = d
  · rw [h, del_at] at e; cases e
  · rw [del_ne h] at e; exact e
theorem delMono {H H' : Hp} (s : Same H H') {d : Addr} : Same (del H d) (del H' d) := fun b o e => by
  by_cases h : b = d
  · rw [h, del_at] at e; cases e
  · rw [del_ne h] at e ⊢; exact s _ _ e
theorem delUpd {H : Hp} {d : Addr} {o : HO} : del (upd H d o) d = del H d := by
  funext b
  by_cases h : b = d
  · rw [h, del_at, del_at]
  · rw [del_ne h, del_ne h, upd_ne h]
/-- the table while it is filled: the pairs in D are in it -/
structure TabI (P : Program) (w : World) (K : PySem.W.Frag) (B H : Hp) (d : Addr) (p : M23.Pd) (D : Nat → Nat → Prop) (n : Nat) : Prop where
  tn : ∃ es, H d = some (TN P w d es) ∧ Keys K (del H d) es ∧ (∀ x ∈ es, ∃ h t : Nat, x.1 = k2 h t ∧ D h t) ∧ (∀ h t : Nat, D h t → ∃ (l : Addr) (bs : List AP), valN es (keyN (k2 h t)) = some (.ref l) ∧ del H d l = some (.lst (rfs bs)) ∧ Prods K (del H d) bs ∧ bs.map Prod.snd = tb p h t ∧ B l = none) ∧ es.length = n
theorem TabI.same {B H H' : Hp} {d : Addr} {p : M23.Pd} {D : Nat → Nat → Prop} {n : Nat} (h : TabI P w K B H d p D n) (s : Same H H') : TabI P w K B H' d p D n := by
  obtain ⟨es, h1, h2, h3, h4, h5⟩ := h
  exact ⟨es, s _ _ h1, h2.same (delMono s), h3, fun a b z => let ⟨l, bs, z1, z2, z3, z4, z5⟩ := h4 a b z; ⟨l, bs, z1, delMono s _ _ z2, z3.same (delMono s), z4, z5⟩, h5⟩
theorem TabI.iff {B H : Hp} {d : Addr} {p : M23.Pd} {D D' : Nat → Nat → Prop} {n : Nat} (h : TabI P w K B H d p D n) (e : ∀ a b, D a b ↔ D' a b) : TabI P w K B H d p D' n := by
  have : D = D' := funext fun a => funext fun b => propext (e a b)
  rw [← this]
  exact h
theorem valN_none {es : List EntN} {k : NestedKey} (h : ∀ x ∈ es, keyN x.1 ≠ k) : valN es k = none := by
  unfold valN
  rw [List.find?_eq_none.mpr (fun x hx => by simpa using h x hx)]
  rfl
theorem valN_app {es : List EntN} {x : EntN} {k : NestedKey} : valN (es ++ [x]) k = (valN es k).orElse fun _ => if keyN x.1 = k then some x.2.2 else none := by
  induction es with
  | nil =>
    obtain ⟨d, a, v⟩ := x
    show valN [(d, a, v)] k = _
    rw [valN_cons]
    show _ = Option.orElse none _
    split <;> rfl
  | cons e es ih =>
    obtain ⟨d, a, v⟩ := e
    rw [List.cons_append, valN_cons, valN_cons, ih]
    split <;> rfl
theorem TabI.get {B H : Hp} {d : Addr} {p : M23.Pd} {D : Nat → Nat → Prop} {n h t : Nat} (I : TabI P w K B H d p D n) (hD : D h t) :
    ∃ (l : Addr) (bs : List AP), (∀ H' kp, Same H H' → SqT K H' kp [.int (h : Nat), .int (t : Nat)] → XGet P w K H' d (.ref kp) (some (.ref l))) ∧ del H d l = some (.lst (rfs bs)) ∧ Prods K (del H d) bs ∧ bs.map Prod.snd = tb p h t ∧ B l = none := by
  obtain ⟨es, h1, h2, h3, h4, h5⟩ := I
  obtain ⟨l, bs, z1, z2, z3, z4⟩ := h4 h t hD
  exact ⟨l, bs, fun H' kp s hk => .inr ⟨es, k2 h t, kp, s _ _ h1, rfl, dp_k2 hk, k2_able _ _, k2_deep _ _, (h2.same delLe).same s, z1⟩, z2, z3, z4⟩
theorem TabI.put {B H : Hp} {d kp l : Addr} {p : M23.Pd} {D : Nat → Nat → Prop} {n h t : Nat} {bs : List AP} (I : TabI P w K B H d p D n) (hD : ¬ D h t) (hn : n < 1000) (hk : SqT K (del H d) kp [.int (h : Nat), .int (t : Nat)])
    (hl : del H d l = some (.lst (rfs bs))) (hP : Prods K (del H d) bs) (hb : bs.map Prod.snd = tb p h t) (hB : B l = none) :
    ∃ H2, XPut P w K H d (.ref kp) (.ref l) H2 ∧ del H2 d = del H d ∧ TabI P w K B H2 d p (fun a b => D a b ∨ (a = h ∧ b = t)) (n + 1) := by
  obtain ⟨es, h1, h2, h3, h4, h5⟩ := I
  have hnone : valN es (keyN (k2 h t)) = none := valN_none fun x hx e => by
    obtain ⟨a, b, e1, e2⟩ := h3 x hx
    rw [e1] at e
    obtain ⟨e3, e4⟩ := k2_inj e
    have e3 : a = h := by omega
    have e4 : b = t := by omega
    subst e3 e4
    exact hD e2
  refine ⟨_, .inr ⟨es, k2 h t, kp, h1, rfl, dp_k2 (sqT_same hk delLe), k2_able _ _, k2_deep _ _, h2.same delLe, hnone, by rw [h5, sizeLine_eq]; omega, rfl⟩, delUpd, ⟨_, upd_same, ?_, ?_, ?_, by rw [List.length_append, h5]; rfl⟩⟩
  · rw [delUpd]
    intro x hx
    rcases List.mem_append.mp hx with hx | hx
    · exact h2 x hx
    · rw [List.mem_singleton.mp hx]
      exact ⟨dp_k2 hk, k2_able _ _, k2_deep _ _⟩
  · intro x hx
    rcases List.mem_append.mp hx with hx | hx
    · obtain ⟨a, b, e1, e2⟩ := h3 x hx
      exact ⟨a, b, e1, .inl e2⟩
    · rw [List.mem_singleton.mp hx]
      exact ⟨h, t, rfl, .inr ⟨rfl, rfl⟩⟩
  · rw [delUpd]
    rintro a b (hab | ⟨rfl, rfl⟩)
    · obtain ⟨l', bs', z1, z2, z3, z4⟩ := h4 a b hab
      exact ⟨l', bs', by rw [valN_app, z1]; rfl, z2, z3, z4⟩
    · exact ⟨l, bs, by rw [valN_app, hnone]; show (if keyN (k2 a b) = keyN (k2 a b) then some (V.ref l) else none) = _; rw [if_pos rfl], hl, hP, hb, hB⟩
theorem slA_go {K : PySem.W.Frag} {H : Hp} {a : Addr} {xs : List V} {lo hi : Option Int} {Q : VK} (ha : SqT K H a xs) (q : ∀ H' c, Same H H' → SqT K H' c (cutV xs lo hi) → Q (.ref c) H') : rSlA K (.ref a) lo hi H Q :=
  ⟨a, xs, rfl, ha, fun e => q H a (Same.refl _) (by unfold cutV; rw [e.1, e.2, List.drop_zero, Nat.sub_zero, List.take_length]; exact ha), fun _ p np => q _ p (same_upd np) (.inl (.inl upd_same))⟩
theorem sqT_delN {H : Hp} {d a : Addr} {es : List EntN} {xs : List V} (hd : H d = some (TN P w d es)) (h : SqT K H a xs) : SqT K (del H d) a xs := by
  rcases h with (h | ⟨o', h⟩) | h
  · have n : a ≠ d := fun e => by rw [e, hd] at h; cases h
    exact .inl (.inl (by rw [del_ne n]; exact h))
  · have n : a ≠ d := fun e => by rw [e, hd] at h; cases h
    exact .inl (.inr ⟨o', by rw [del_ne n]; exact h⟩)
  · exact .inr h
theorem store_lat {a1 a2 a3 : Addr} {v1 v2 v3 : V} : L3.storeAll [] (lat a1 a2 a3 v1 v2 v3) = lat a1 a2 a3 v1 v2 v3 := by
  have n1 : keyN (k2 1 0) ≠ keyN (k2 0 1) := fun e => by have := (k2_inj e).1; omega
  have n2 : keyN (k2 1 0) ≠ keyN (k2 1 1) := fun e => by have := (k2_inj e).2; omega
  have n3 : keyN (k2 0 1) ≠ keyN (k2 1 1) := fun e => by have := (k2_inj e).1; omega
  unfold lat L3.storeAll
  simp only [List.foldl_cons, List.foldl_nil]
  unfold L3.storeE
  simp [valN, n1, n2, n3]
theorem tor2 {a c : TT} {b1 b2 : Bool} {σ : L2.St} {H : Hp} {k : Bool → Hp → Prop} (h1 : ∀ Q : Bool → Hp → Prop, Q b1 H → a σ H Q) (h2 : ∀ Q : Bool → Hp → Prop, Q b2 H → c σ H Q) (hk : k (b1 || b2) H) : tOr a c σ H k := by
  refine h1 _ ?_
  cases b1 with
  | true => exact hk
  | false => exact h2 _ hk
theorem if_b {tc : TT} {t u : TS} {b : Bool} {D : Ends} {σ : L2.St} {H : Hp} (h : ∀ k : Bool → Hp → Prop, k b H → tc σ H k) (h1 : b = true → t D σ H) (h2 : b = false → u D σ H) : tIfS tc t u D σ H := by
  refine h _ ?_
  cases b with
  | true => exact h1 rfl
  | false => exact h2 rfl
def spMeet (K : PySem.W.Frag) : Sp := fun vs H Q _ => ∃ (v u : V) (sg : List Nat) (p : M23.Pd), vs = [v, u] ∧ Dp K H v (M23.dP p) ∧ Dp K H u (M23.dP [sg ++ [42]]) ∧ Lets sg ∧ PdOk sg p ∧ p.length ≤ 20 ∧
  ∀ H' l (bs : List AP), Same H H' → H l = none → H' l = some (.lst (rfs bs)) → Prods K H' bs → bs.map Prod.snd = [M23.redOf p] → Q (.ref l) H'
theorem ok_meet_of (T : All K mg) : FnOk P w K mg base CX0 9 T.f_meet_of T.d_meet_of ["one", "other"] (spMeet K) := by
  refine T.meet_of.F.ok sc_meet_of (fun vs H Q E h => ?_) (fun cdv A outer s H vs Q E hr h => ?_)
  · obtain ⟨v, u, sg, p, rfl, _⟩ := h
    rfl
  · obtain ⟨v, u, sg, p, rfl, hv, hu, hl, hp, hz, q⟩ := h
    refine ⟨_, pss_cons (ps_set (i := 2) sc_meet_of.nd rfl (by first | exact Or.inl rfl | exact Or.inr rfl) pe_dnewX)
      (pss_cons (ps_for PassesOwn.never rfl (pi_range3 rfl T.b_range (pa_cons (pe_callB call_len_seq (by rfl) T.b_len PySem.boot_len (pa_cons (pv 0) pa_nil)) (pa_cons (pe_un un_neg pe_int) (pa_cons (pe_un un_neg pe_int) pa_nil)))) (pg_name (i := 3) sc_meet_of.nd rfl (by first | exact Or.inl rfl | exact Or.inr rfl))
        (pss_one (ps_for PassesOwn.never rfl (pi_range3 rfl T.b_range (pa_cons (pe_callB call_len_seq (by rfl) T.b_len PySem.boot_len (pa_cons (pv 1) pa_nil)) (pa_cons (pe_un un_neg pe_int) (pa_cons (pe_un un_neg pe_int) pa_nil)))) (pg_name (i := 4) sc_meet_of.nd rfl (by first | exact Or.inl rfl | exact Or.inr rfl))
        (pss_one (ps_if (PW.pt (pw_or (pt_cmpR op_eq (pv 3) (pe_callB call_len_seq (by rfl) T.b_len PySem.boot_len (pa_cons (pv 0) pa_nil)) (nomark _)) (pw_or1 (pt_cmpR op_eq (pv 4) (pe_callB call_len_seq (by rfl) T.b_len PySem.boot_len (pa_cons (pv 1) pa_nil)) (nomark _))))) (pss_one (ps_xput (u64 hr) (pv 2) (pe_tup (pa_cons (pv 3) (pa_cons (pv 4) pa_nil))) (pe_lst (pa_cons (pe_tup pa_nil) pa_nil)) rfl)) (pss_cons (ps_set (i := 5) sc_meet_of.nd rfl (by first | exact Or.inl rfl | exact Or.inr rfl) (pe_tup (pa_cons (pe_tup (pa_cons pe_int (pa_cons pe_int pa_nil))) (pa_cons (pe_tup (pa_cons pe_int (pa_cons pe_int pa_nil))) (pa_cons (pe_tup (pa_cons pe_int (pa_cons pe_int pa_nil))) pa_nil)))))
      (pss_cons (ps_set (i := 6) sc_meet_of.nd rfl (by first | exact Or.inl rfl | exact Or.inr rfl) (pe_callTy (cr_dictN rfl (u64 hr)) (by rfl) T.b_dict (show bootBuiltins "dict" = some (.type "dict") by decide +kernel) (pa_cons (pe_lc (own := [("step", 7)]) (g := gName 7) (tt := tYes) rfl sc_meet_of.nd (pi_tup (pv 5))
          (blkOk_by (own := [("step", 7)]) (N := ["one", "other", "table", "here", "there", "steps", "laters", "step"]) (sc := defScope s_meet_of) (by decide +kernel))
          (fun _ _ _ _ _ => pg_name (i := 7) sc_meet_of.nd rfl (by first | exact Or.inl rfl | exact Or.inr rfl)) (fun _ _ _ _ _ => pts_nil)
          (fun _ _ _ _ _ => (pe_tup (pa_cons (pv 7) (pa_cons (pe_xgetK (P := P) (w := w) (K := K) rfl rfl rfl (u64 hr) (pv 2) (pe_tup (pa_cons (pe_op op_add (pv 3) (pe_ix (ix_tupK (K := K) rfl) (pv 7) pe_int (fun _ _ => rfl))) (pa_cons (pe_op op_add (pv 4) (pe_ix (ix_tupK (K := K) rfl) (pv 7) pe_int (fun _ _ => rfl))) pa_nil))) (fun _ _ => rfl)) pa_nil))))) pa_nil)))
      (pss_one (ps_xput (u64 hr) (pv 2) (pe_tup (pa_cons (pv 3) (pa_cons (pv 4) pa_nil))) (pe_call (ok_kept_of T) (hr.mono (by decide)) (by rfl) T.kept_of.g T.kept_of.F.kp T.kept_of.b .nil pass0 (pa_cons (pe_call (ok_met_behind T) (hr.mono (by decide)) (by rfl) T.met_behind.g T.met_behind.F.kp T.met_behind.b .nil pass0 (pa_cons (pe_slice sl_tupA (pv 0) (po_some (pv 3)) po_none) (pa_cons (pe_slice sl_tupA (pv 1) (po_some (pv 4)) po_none) (pa_cons (pv 6) pa_nil)))) pa_nil)) rfl)))))))))
      (pss_one (ps_ret (pe_xgetK (P := P) (w := w) (K := K) rfl rfl rfl (u64 hr) (pv 2) (pe_tup (pa_cons pe_int (pa_cons pe_int pa_nil))) (fun _ _ => rfl))))), ?_⟩
    dsimp only [cxOf]
    obtain ⟨av, rfl, hvt⟩ := dp_pd hv
    obtain ⟨au, rfl, hut⟩ := dp_pd hu
    have hpl : (p.map tx).length = p.length := List.length_map _
    intro d nd
    refine ⟨TN P w d [], .inr rfl, ?_⟩
    have hd0 := upd_same (H := H) (a := d) (o := TN P w d [])
    have sd0 := same_upd (o := TN P w d []) nd
    have i0 : TabI P w K H (upd H d (TN P w d [])) d p (fun _ _ => False) 0 := ⟨[], hd0, (fun x hx => nomatch hx), (fun x hx => nomatch hx), (fun h t z => False.elim z), rfl⟩
    have sd1 : Same H (del (upd H d (TN P w d [])) d) := fun b o e => by
      rw [delUpd, del_ne (ne_of_none e nd)]
      exact e
    generalize upd H d (TN P w d []) = H0 at *
    have hlen : ((p.map tx).length : Int) = (p.length : Int) := by rw [hpl]
    have e1 : ((p.length : Int) - (-1)).toNat = p.length + 1 := by omega
    refine ⟨_, rfl, av, _, rfl, .inr (sqT_same hvt sd0), 1, rfl, 1, rfl, (p.length : Int), -1, -1, p.length + 1, by rw [hlen], by rw [← e1]; exact RgC.neg (by omega) (by omega) (by decide) (by decide), ?_⟩
    refine for_it walk_rangeC (fun i σ H' => ∃ s3 s4 s5 s6 s7, σ = [some (.ref av), some (.ref au), some (.ref d), s3, s4, s5, s6, s7] ∧ Same H (del H' d) ∧ TabI P w K H H' d p (fun h t => p.length < h + i ∧ h ≤ p.length ∧ t ≤ 1) (2 * i)) ⟨_, _, _, _, _, rfl, sd1, i0.iff fun a b => ⟨fun z => False.elim z, fun z => by omega⟩⟩ (fun _ _ _ _ _ => trivial) (fun i x σ H3 H4 hi pp y => ?_) (fun σ H3 pp => ?_)
    · obtain ⟨s3, s4, s5, s6, s7, rfl, sH, I⟩ := pp
      obtain ⟨rfl, rfl⟩ := y
      obtain ⟨hh, ehh⟩ : ∃ hh : Nat, hh + i = p.length := ⟨p.length - i, by omega⟩
      show gName 3 (V.int ((p.length : Int) + ((i : Nat) : Int) * -1)) _ _ _
      rw [show ((p.length : Int) + ((i : Nat) : Int) * -1) = (hh : Int) by omega]
      refine ⟨_, rfl, au, _, rfl, .inr (sqT_same hut (sH.trans delLe)), 1, rfl, 1, rfl, 1, -1, -1, 2, rfl, RgC.neg (i := 1) (j := -1) (by decide) (by decide) (by decide) (by decide), ?_⟩
      refine for_it walk_rangeC (fun j σ H' => ∃ s4 s5 s6 s7, σ = [some (.ref av), some (.ref au), some (.ref d), some (.int (hh : Nat)), s4, s5, s6, s7] ∧ Same H (del H' d) ∧ TabI P w K H H' d p (fun h t => (p.length < h + i ∧ h ≤ p.length ∧ t ≤ 1) ∨ (h = hh ∧ 1 < t + j ∧ t ≤ 1)) (2 * i + j)) ⟨_, _, _, _, rfl, sH, I.iff fun a b => by omega⟩ (fun _ _ _ _ _ => trivial) (fun j x σ H5 H6 hj pp y => ?_) (fun σ H5 pp => ?_)
      · obtain ⟨s4, s5, s6, s7, rfl, sH, I⟩ := pp
        obtain ⟨rfl, rfl⟩ := y
        obtain ⟨tt, ett⟩ : ∃ tt : Nat, tt + j = 1 := ⟨1 - j, by omega⟩
        show gName 4 (V.int ((1 : Int) + ((j : Nat) : Int) * -1)) _ _ _
        rw [show ((1 : Int) + ((j : Nat) : Int) * -1) = (tt : Int) by omega]
        have hvt2 := sqT_same hvt (sH.trans delLe)
        have hut2 := sqT_same hut (sH.trans delLe)
        have I2 := I
        have hD : ¬ ((p.length < hh + i ∧ hh ≤ p.length ∧ tt ≤ 1) ∨ (hh = hh ∧ 1 < tt + j ∧ tt ≤ 1)) := by omega
        have hDn : ∀ a b : Nat, (((p.length < a + i ∧ a ≤ p.length ∧ b ≤ 1) ∨ (a = hh ∧ 1 < b + j ∧ b ≤ 1)) ∨ (a = hh ∧ b = tt)) ↔ ((p.length < a + i ∧ a ≤ p.length ∧ b ≤ 1) ∨ (a = hh ∧ 1 < b + (j + 1) ∧ b ≤ 1)) := by omega
        refine if_b (b := decide (hh = p.length) || decide (tt = 1)) (fun k hk => tor2 (b1 := decide (hh = p.length)) (b2 := decide (tt = 1)) (fun Q h => ?_) (fun Q h => ?_) hk) (fun hb => ?_) (fun hb => ?_)
        · refine ⟨_, rfl, _, rfl, av, _, rfl, .inr hvt2, rfl, _, rfl, ?_⟩
          rw [hpl, show decide ((V.int (hh : Nat)) = V.int (p.length : Nat)) = decide (hh = p.length) from decide_eq_decide.mpr ⟨fun e => by injection e with e; omega, fun e => by rw [e]⟩]
          exact h
        · refine ⟨_, rfl, _, rfl, au, _, rfl, .inr hut2, rfl, _, rfl, ?_⟩
          rw [show decide ((V.int (tt : Nat)) = V.int (([sg ++ [42]].map tx).length : Nat)) = decide (tt = 1) from decide_eq_decide.mpr ⟨fun e => by injection e with e; simp at e; omega, fun e => by rw [e]; rfl⟩]
          exact h
        · have htb : tb p hh tt = [[]] := by
            unfold tb
            rcases Bool.or_eq_true_iff.mp hb with e | e
            · have e := of_decide_eq_true e
              split
              · rw [e, List.drop_length]; rfl
              · rfl
            · have e := of_decide_eq_true e
              rw [if_neg (by omega)]
          refine ⟨by show 0 ≤ sizeLine; decide, fun e ne => ⟨by show 1 ≤ sizeLine; decide, fun l nl => ?_⟩⟩
          have se := same_upd (o := .tup []) ne
          have sl := same_upd (o := .lst [.ref e]) nl
          have hl0 := upd_same (H := upd H6 e (.tup [])) (a := l) (o := .lst [.ref e])
          have he0 := sl _ _ (upd_same (H := H6) (a := e) (o := .tup []))
          have sel := se.trans sl
          generalize upd (upd H6 e (.tup [])) l (.lst [.ref e]) = H7 at *
          refine ⟨_, rfl, _, rfl, _, rfl, by show 2 ≤ sizeLine; decide, fun kp nk => ?_⟩
          have sk := same_upd (o := .tup [.int (hh : Nat), .int (tt : Nat)]) nk
          have hk0 := upd_same (H := H7) (a := kp) (o := .tup [.int (hh : Nat), .int (tt : Nat)])
          have hl1 := sk _ _ hl0
          have he1 := sk _ _ he0
          have s57 := sel.trans sk
          generalize upd H7 kp (.tup [.int (hh : Nat), .int (tt : Nat)]) = H8 at *
          have I8 := I.same s57
          obtain ⟨es, hdd, _⟩ := I8.tn
          have nd1 : ∀ {a : Addr} {xs : List V}, H8 a = some (.tup xs) → a ≠ d := fun h e => by rw [e, hdd] at h; cases h
          have nd2 : ∀ {a : Addr} {xs : List V}, H8 a = some (.lst xs) → a ≠ d := fun h e => by rw [e, hdd] at h; cases h
          obtain ⟨H9, hx, hdel, I9⟩ := I8.put (bs := [(e, [])]) hD (by omega) (.inl (.inl (by rw [del_ne (nd1 hk0)]; exact hk0))) (by rw [del_ne (nd2 hl1)]; exact hl1) (fun b hb => by rw [List.mem_singleton.mp hb]; exact .inl (.inl (by rw [del_ne (nd1 he1)]; exact he1))) (by rw [htb]; rfl) (((sH.trans delLe).trans se).free nl)
          refine ⟨d, H9, rfl, hx, _, _, _, _, rfl, ?_, I9.iff hDn⟩
          rw [hdel]
          exact sH.trans (delMono s57)
        · have hb := Bool.or_eq_false_iff.mp hb
          have hh1 : hh ≠ p.length := of_decide_eq_false hb.1
          have ht0 : tt = 0 := by have := of_decide_eq_false hb.2; omega
          subst ht0
          obtain ⟨x, ex⟩ : ∃ x, p[hh]? = some x := ⟨p[hh]'(by omega), List.getElem?_eq_getElem (by omega)⟩
          have edr : p.drop hh = x :: p.drop (hh + 1) := by
            rw [List.drop_eq_getElem_cons (by omega)]
            rw [List.getElem?_eq_getElem (by omega)] at ex
            rw [Option.some.inj ex]
          obtain ⟨l1, b1, g1, c1, d1, f1, _⟩ := I.get (h := hh + 1) (t := 0) (.inl (by omega))
          obtain ⟨l2, b2, g2, c2, d2, f2, _⟩ := I.get (h := hh) (t := 1) (.inr (by omega))
          obtain ⟨l3, b3, g3, c3, d3, f3, _⟩ := I.get (h := hh + 1) (t := 1) (.inl (by omega))
          refine ⟨by show 2 ≤ sizeLine; decide, fun q1 n1 => ⟨by show 2 ≤ sizeLine; decide, fun q2 n2 => ⟨by show 2 ≤ sizeLine; decide, fun q3 n3 => ⟨by show 3 ≤ sizeLine; decide, fun sp nsp => ?_⟩⟩⟩⟩
          have t1 := same_upd (o := .tup [.int 1, .int 0]) n1
          have t2 := same_upd (o := .tup [.int 0, .int 1]) n2
          have t3 := same_upd (o := .tup [.int 1, .int 1]) n3
          have t4 := same_upd (o := .tup [.ref q1, .ref q2, .ref q3]) nsp
          have u1 := t4 _ _ (t3 _ _ (t2 _ _ (upd_same (H := H6) (a := q1) (o := .tup [.int 1, .int 0]))))
          have u2 := t4 _ _ (t3 _ _ (upd_same (a := q2) (o := .tup [.int 0, .int 1])))
          have u3 := t4 _ _ (upd_same (a := q3) (o := .tup [.int 1, .int 1]))
          have u4 := upd_same (a := sp) (o := .tup [.ref q1, .ref q2, .ref q3]) (H := upd (upd (upd H6 q1 (.tup [.int 1, .int 0])) q2 (.tup [.int 0, .int 1])) q3 (.tup [.int 1, .int 1]))
          have s67 := t1.trans (t2.trans (t3.trans t4))
          generalize upd (upd (upd (upd H6 q1 (.tup [.int 1, .int 0])) q2 (.tup [.int 0, .int 1])) q3 (.tup [.int 1, .int 1])) sp (.tup [.ref q1, .ref q2, .ref q3]) = H7 at *
          refine ⟨_, rfl, sp, rfl, ⟨_, .inl (.inl u4)⟩, fun D nD => ?_⟩
          obtain ⟨L, hL⟩ : ∃ L : List (Addr × Nat × Nat × Addr), L = [(q1, 1, 0, l1), (q2, 0, 1, l2), (q3, 1, 1, l3)] := ⟨_, rfl⟩
          have hLx : [V.ref q1, .ref q2, .ref q3] = L.map fun z => V.ref z.1 := by rw [hL]; rfl
          have hLp : ∀ z ∈ L, H7 z.1 = some (.tup [.int (z.2.1 : Nat), .int (z.2.2.1 : Nat)]) ∧ ∀ H' kp, Same H7 H' → SqT K H' kp [.int ((hh : Int) + (z.2.1 : Nat)), .int ((0 : Int) + (z.2.2.1 : Nat))] → XGet P w K H' d (.ref kp) (some (.ref z.2.2.2)) := by
            intro z hz
            rw [hL] at hz
            simp only [List.mem_cons, List.not_mem_nil, or_false] at hz
            rcases hz with rfl | rfl | rfl
            · exact ⟨u1, fun H' kp s hk => g1 H' kp (s67.trans s) (by rw [Int.zero_add] at hk; exact hk)⟩
            · exact ⟨u2, fun H' kp s hk => g2 H' kp (s67.trans s) (by rw [Int.zero_add] at hk; exact hk)⟩
            · exact ⟨u3, fun H' kp s hk => g3 H' kp (s67.trans s) (by rw [Int.zero_add] at hk; exact hk)⟩
          have hLl : L.length = 3 := by rw [hL]; rfl
          rw [hLx] at u4
          refine lc_it (walk_tup (xs := L.map fun z => V.ref z.1)) (fun i H' => Same H7 H' ∧ ∃ ts : List Addr, H' D = some (.lst (ts.map V.ref)) ∧ ts.length = i ∧ Paired (fun t z => SqT K H' t [.ref z.1, .ref z.2.2.2]) ts (L.take i)) ⟨same_upd nD, [], upd_same, rfl, .nil⟩ (fun i H' _ pp => .inl (.inl (pp.1 _ _ u4))) (fun m y H10 H11 hm pp yy => ?_) (fun H10 pp => ?_)
          · obtain ⟨r10, ts, hDm, htl, hPm⟩ := pp
            obtain ⟨rfl, yy⟩ := yy
            rw [List.getElem?_map] at yy
            obtain ⟨z, hz, rfl⟩ := Option.map_eq_some_iff.mp yy
            obtain ⟨y1, y2⟩ := hLp z (List.mem_of_getElem? hz)
            have y3 : SqT K H11 z.1 [.int (z.2.1 : Nat), .int (z.2.2.1 : Nat)] := .inl (.inl (r10 _ _ y1))
            refine ⟨rfl, yes_te ?_⟩
            refine ⟨_, rfl, _, rfl, _, rfl, _, rfl, z.1, _, _, _, rfl, rfl, y3, atI_0, _, _, rfl, rfl, _, rfl, _, rfl, z.1, _, _, _, rfl, rfl, y3, atI_1, _, _, rfl, rfl, by show 2 ≤ sizeLine; decide, fun kp nk => ?_⟩
            have sk := same_upd (o := .tup [.int ((hh : Int) + (z.2.1 : Nat)), .int (((0 : Nat) : Int) + (z.2.2.1 : Nat))]) nk
            have hk0 := upd_same (H := H11) (a := kp) (o := .tup [.int ((hh : Int) + (z.2.1 : Nat)), .int (((0 : Nat) : Int) + (z.2.2.1 : Nat))])
            refine ⟨d, .ref z.2.2.2, rfl, y2 _ kp (r10.trans sk) (.inl (.inl hk0)), by show 2 ≤ sizeLine; decide, fun tp ntp => ?_⟩
            have stp := sk.trans (same_upd (o := .tup [.ref z.1, .ref z.2.2.2]) ntp)
            have hD4 := stp _ _ hDm
            have htp := upd_same (H := upd H11 kp (.tup [.int ((hh : Int) + (z.2.1 : Nat)), .int (((0 : Nat) : Int) + (z.2.2.1 : Nat))])) (a := tp) (o := .tup [.ref z.1, .ref z.2.2.2])
            generalize upd (upd H11 kp (.tup [.int ((hh : Int) + (z.2.1 : Nat)), .int (((0 : Nat) : Int) + (z.2.2.1 : Nat))])) tp (.tup [.ref z.1, .ref z.2.2.2]) = H12 at *
            refine ⟨_, hD4, by rw [List.length_map, htl, sizeLine_eq]; rw [List.length_map, hLl] at hm; omega, same_up (r10.trans stp) nD, ts ++ [tp], by rw [upd_same, List.map_append]; rfl, by rw [List.length_append, htl]; rfl, ?_⟩
            rw [List.take_add_one, hz]
            refine Paired.snocP (Paired.mapP hPm fun a b z => sqT_upL hD4 (sqT_same z stp)) (sqT_upL hD4 (.inl (.inl htp)))
          · obtain ⟨r10, ts, hDm, htl, hPm⟩ := pp
            rw [List.length_map, hLl] at hPm
            rw [show L.take 3 = L by rw [← hLl, List.take_length]] at hPm
            have hKl : Keys K H7 (lat q1 q2 q3 (.ref l1) (.ref l2) (.ref l3)) := by
              intro x hx
              unfold lat at hx
              simp only [List.mem_cons, List.not_mem_nil, or_false] at hx
              rcases hx with rfl | rfl | rfl
              · exact ⟨dp_k2 (.inl (.inl u1)), k2_able _ _, k2_deep _ _⟩
              · exact ⟨dp_k2 (.inl (.inl u2)), k2_able _ _, k2_deep _ _⟩
              · exact ⟨dp_k2 (.inl (.inl u3)), k2_able _ _, k2_deep _ _⟩
            refine ⟨D, ts, lat q1 q2 q3 (.ref l1) (.ref l2) (.ref l3), rfl, .inl (.inl hDm), ?_, hKl.same r10, fun ld nld => ?_⟩
            · rw [hL] at hPm
              have pz : ∀ {ts : List Addr} {L : List (Addr × Nat × Nat × Addr)}, Paired (fun t z => SqT K H10 t [.ref z.1, .ref z.2.2.2]) ts L → Paired (fun (t : Addr) (p : EntN) => SqT K H10 t [.ref p.2.1, p.2.2]) ts (L.map fun z => (k2 z.2.1 z.2.2.1, z.1, V.ref z.2.2.2)) := by
                intro ts L h
                induction h with
                | nil => exact .nil
                | cons h _ ih => exact .cons h ih
              exact pz hPm
            rw [store_lat]
            have sld := same_upd (o := TN P w ld (lat q1 q2 q3 (.ref l1) (.ref l2) (.ref l3))) nld
            have hld := upd_same (H := H10) (a := ld) (o := TN P w ld (lat q1 q2 q3 (.ref l1) (.ref l2) (.ref l3)))
            have s68 := s67.trans (r10.trans sld)
            have hK8 := hKl.same (r10.trans sld)
            generalize upd H10 ld (TN P w ld (lat q1 q2 q3 (.ref l1) (.ref l2) (.ref l3))) = H13 at *
            dsimp only [gName]
            refine ⟨_, rfl, _, rfl, _, rfl, ?_⟩
            dsimp only [tNoPart]
            refine slA_go (sqT_same hvt2 s68) fun H14 c1' s14 hc1 => ?_
            rw [cutV_lo, ← List.map_drop] at hc1
            refine ⟨_, rfl, _, rfl, _, rfl, ?_⟩
            dsimp only [tNoPart]
            refine slA_go (sqT_same hut2 (s68.trans s14)) fun H15 c2' s15 hc2 => ?_
            rw [cutV_lo] at hc2
            have s610 := s68.trans (s14.trans s15)
            have hfd : ∀ {l : Addr} {bs : List AP}, del H6 d l = some (.lst (rfs bs)) → H15 l = some (.lst (rfs bs)) := fun h => s610 _ _ (delLe _ _ h)
            have hfp : ∀ {bs : List AP}, Prods K (del H6 d) bs → Prods K H15 bs := fun h => (h.same delLe).same s610
            have hb1 : b1.map Prod.snd = [M23.redOf (p.drop (hh + 1))] := by
              rw [f1]
              unfold tb
              rw [if_pos rfl]
              exact M91.mt_eq fun y hy => (hp y (List.mem_of_mem_drop hy)).ok hl
            have hb2 : b2.map Prod.snd = [[]] := by rw [f2]; rfl
            have hb1l : b1.length = 1 := by have := congrArg List.length hb1; simpa using this
            refine ⟨_, rfl, .ref c1', .ref c2', ld, q1, q2, q3, l1, l2, .ref l3, sg, x, p.drop (hh + 1), b1, b2, rfl, ?_, ?_, hl, hp x (List.mem_of_getElem? ex), (s14.trans s15) _ _ hld, hK8.same (s14.trans s15), hfd c1, hfp d1, hfd c2, hfp d2, hb2, by omega, fun b hb => ?_, fun H16 lm ms s16 nlm hlm hPm hms => ?_⟩
            · rw [← edr]
              exact pd_dp (sqT_same hc1 s15)
            · rw [List.drop_zero] at hc2
              exact pd_dp hc2
            · have hm : b.2 ∈ b1.map Prod.snd := List.mem_map_of_mem hb
              rw [hb1, List.mem_singleton] at hm
              rw [hm]
              have := M23.redOf_len (p.drop (hh + 1))
              rw [List.length_drop] at this
              omega
            have hmm : ∀ b ∈ ms, b.2.length ≤ 100 ∧ ∀ y ∈ b.2, TxOk y := fun b hb => by
              have hm : b.2 ∈ ms.map Prod.snd := List.mem_map_of_mem hb
              have hxx : TxOk x := (hp x (List.mem_of_getElem? ex)).tx hl
              rw [hms, hb1] at hm
              have hm2 : b.2 = x :: M23.redOf (p.drop (hh + 1)) ∨ b.2 = [x] := by
                unfold M91.met at hm
                split at hm
                · simpa using hm
                · exact .inl (by simpa using hm)
              rcases hm2 with e | e
              · rw [e]
                refine ⟨?_, fun y hy => ?_⟩
                · have := M23.redOf_len (p.drop (hh + 1))
                  rw [List.length_drop] at this
                  rw [List.length_cons]
                  omega
                · rcases List.mem_cons.mp hy with rfl | hy
                  · exact hxx
                  · exact (hp y (List.mem_of_mem_drop (M23.redOf_mem hy))).tx hl
              · rw [e]
                exact ⟨by show 1 ≤ 100; decide, fun y hy => by rw [List.mem_singleton.mp hy]; exact hxx⟩
            have hml : ms.length ≤ 20 := by
              have := congrArg List.length hms
              rw [List.length_map, hb1] at this
              rw [this]
              unfold M91.met
              split <;> simp
            refine ⟨lm, ms, rfl, .inl (.inl (.inl hlm)), hPm, hml, fun b hb => (hmm b hb).1, fun b hb => (hmm b hb).2, fun H17 kl ks s17 nkl hkl hPk hks => ?_⟩
            have s617 := s610.trans (s16.trans s17)
            refine ⟨_, rfl, _, rfl, _, rfl, by show 2 ≤ sizeLine; decide, fun kp nk => ?_⟩
            have sk := same_upd (o := .tup [.int (hh : Nat), .int ((0 : Nat) : Int)]) nk
            have hk0 := upd_same (H := H17) (a := kp) (o := .tup [.int (hh : Nat), .int ((0 : Nat) : Int)])
            have hkl1 := sk _ _ hkl
            have hPk1 := hPk.same sk
            have s618 := s617.trans sk
            generalize upd H17 kp (.tup [.int (hh : Nat), .int ((0 : Nat) : Int)]) = H18 at *
            have I8 := I.same s618
            obtain ⟨es, hdd, _⟩ := I8.tn
            have nd1 : ∀ {a : Addr} {xs : List V}, H18 a = some (.tup xs) → a ≠ d := fun h e => by rw [e, hdd] at h; cases h
            have nd2 : ∀ {a : Addr} {xs : List V}, H18 a = some (.lst xs) → a ≠ d := fun h e => by rw [e, hdd] at h; cases h
            have hPkd : Prods K (del H18 d) ks := fun b hb => sqT_delN hdd (hPk1 b hb)
            obtain ⟨H9, hx, hdel, I9⟩ := I8.put (bs := ks) hD (by omega) (.inl (.inl (by rw [del_ne (nd1 hk0)]; exact hk0))) (by rw [del_ne (nd2 hkl1)]; exact hkl1) hPkd (by
              rw [hks, hms, f1]
              unfold tb
              rw [if_pos rfl, if_pos rfl, edr]
              rfl) (((sH.trans delLe).trans (s610.trans s16)).free nkl)
            refine ⟨d, H9, rfl, hx, _, _, _, _, rfl, ?_, I9.iff hDn⟩
            rw [hdel]
            exact sH.trans (delMono s618)
      · obtain ⟨s4, s5, s6, s7, rfl, sH, I⟩ := pp
        exact ⟨_, _, _, _, _, rfl, sH, I.iff fun a b => by omega⟩
    · obtain ⟨s3, s4, s5, s6, s7, rfl, sH, I⟩ := pp
      obtain ⟨l, bs, g, c, dd, f, hln⟩ := I.get (h := 0) (t := 0) (by omega)
      refine ⟨_, rfl, by show 2 ≤ sizeLine; decide, fun kp nk => ?_⟩
      have sk := same_upd (o := .tup [.int ((0 : Nat) : Int), .int ((0 : Nat) : Int)]) nk
      refine ⟨d, .ref l, rfl, g _ kp sk (.inl (.inl upd_same)), ?_⟩
      refine q _ l bs ((sH.trans delLe).trans sk) hln (sk _ _ (delLe _ _ c)) (dd.same (delLe.trans sk)) ?_
      rw [f]
      unfold tb
      rw [if_pos rfl, List.drop_zero]
      exact M91.mt_eq fun y hy => (hp y hy).ok hl
end
end Lw
namespace Lw
open PySem PySem.Spec PyProof.Rows L3
open L2 hiding del del_same del_ne
section
variable {P : Program} {w : World} {K : PySem.W.Frag} {mg : Str → Option Value} {base : Heap}
theorem sqT_delL {H : Hp} {d a : Addr} {ys xs : List V} (hd : H d = some (.lst ys)) (h : SqT K H a xs) : SqT K (del H d) a xs := by
  rcases h with (h | ⟨o', h⟩) | h
  · have n : a ≠ d := fun e => by rw [e, hd] at h; cases h
    exact .inl (.inl (by rw [del_ne n]; exact h))
  · have n : a ≠ d := fun e => by rw [e, hd] at h; cases h
    exact .inl (.inr ⟨o', by rw [del_ne n]; exact h⟩)
  · exact .inr h
def spMeets (K : PySem.W.Frag) : Sp := fun vs H Q _ => ∃ (a b : Addr) (sg : List Nat) (kp : List M23.Pd), vs = [.ref a, .ref b] ∧ Dp K H (.ref a) (dPT kp) ∧ Dp K H (.ref b) (dPT [[sg ++ [42]]]) ∧ SOk sg kp ∧
  ∀ H' p (cs : List AP), Same H H' → H p = none → H' p = some (.lst (rfs cs)) → Prods K H' cs → cs.map Prod.snd = M23.kept (kp.map M23.redOf) → Q (.ref p) H'
theorem ok_meets_of (T : All K mg) : FnOk P w K mg base CX0 10 T.f_meets_of T.d_meets_of ["some", "others"] (spMeets K) := by
  refine T.meets_of.F.ok sc_meets_of (fun vs H Q E h => ?_) (fun cdv A outer s H vs Q E hr h => ?_)
  · obtain ⟨a, b, sg, kp, rfl, _⟩ := h
    rfl
  · obtain ⟨a, b, sg, kp, rfl, ha, hb, hO, q⟩ := h
    refine ⟨_, pss_cons (ps_set (i := 2) sc_meets_of.nd rfl (by first | exact Or.inl rfl | exact Or.inr rfl) (pe_lst pa_nil))
      (pss_cons (ps_for PassesOwn.never rfl (pi_tup (pv 0)) (pg_name (i := 3) sc_meets_of.nd rfl (by first | exact Or.inl rfl | exact Or.inr rfl))
        (pss_one (ps_for PassesOwn.never rfl (pi_tup (pv 1)) (pg_name (i := 4) sc_meets_of.nd rfl (by first | exact Or.inl rfl | exact Or.inr rfl))
        (pss_one (ps_expr (pe_bm PySem.F.plainAttrs_list PySem.F.slot_list_extend PySem.F.type_list_extend mt_extend (pv 2) (pa_cons (pe_call (ok_meet_of T) (hr.mono (by decide)) (by rfl) T.meet_of.g T.meet_of.F.kp T.meet_of.b .nil pass0 (pa_cons (pv 3) (pa_cons (pv 4) pa_nil))) pa_nil)))))))
      (pss_one (ps_ret (pe_call (ok_kept_of T) (hr.mono (by decide)) (by rfl) T.kept_of.g T.kept_of.F.kp T.kept_of.b .nil pass0 (pa_cons (pv 2) pa_nil))))), ?_⟩
    obtain ⟨bs, a1, a2, a3⟩ := dpT_at ha
    obtain ⟨cs, b1, b2, b3⟩ := dpT_at hb
    obtain ⟨c, rfl, hc⟩ : ∃ c : AP, cs = [c] ∧ c.2 = [sg ++ [42]] := by
      have h1 : cs.length = 1 := by have := congrArg List.length b2; simpa using this
      obtain ⟨c, rfl⟩ := List.length_eq_one_iff.mp h1
      exact ⟨c, rfl, by simpa using b2⟩
    have hbl : (rfs bs).length = bs.length := List.length_map _
    have hbk : bs.length = kp.length := by rw [← a2, List.length_map]
    have hfew := hO.few
    refine ⟨by show 0 ≤ sizeLine; decide, fun F nF => ?_⟩
    have sF : Same H (del (upd H F (.lst [])) F) := fun b o e => by
      rw [delUpd, del_ne (ne_of_none e nF)]
      exact e
    refine ⟨_, rfl, a, rfl, ⟨_, sqT_same a1 (same_upd nF)⟩, ?_⟩
    refine for_it (walk_tup (xs := rfs bs)) (fun i σ H' => ∃ s3 s4, σ = [some (.ref a), some (.ref b), some (.ref F), s3, s4] ∧ Same H (del H' F) ∧ ∃ ms : List AP, H' F = some (.lst (rfs ms)) ∧ ms.map Prod.snd = (kp.take i).map M23.redOf ∧ Prods K (del H' F) ms) ⟨_, _, rfl, sF, [], upd_same, rfl, fun b h => nomatch h⟩ (fun i σ H' _ pp => by obtain ⟨_, _, _, sH, _⟩ := pp; exact sqT_same a1 (sH.trans delLe)) (fun i x σ H3 H4 hi pp y => ?_) (fun σ H3 pp => ?_)
    · obtain ⟨s3, s4, rfl, sH, ms, hF, hms, hPm⟩ := pp
      obtain ⟨rfl, yy⟩ := y
      rw [show (rfs bs)[i]? = (bs[i]?).map fun b => V.ref b.1 from List.getElem?_map] at yy
      obtain ⟨e, he, rfl⟩ := Option.map_eq_some_iff.mp yy
      have hkb : kp[i]? = some e.2 := by rw [← a2, List.getElem?_map, he]; rfl
      refine ⟨_, rfl, b, rfl, ⟨_, sqT_same b1 (sH.trans delLe)⟩, ?_⟩
      refine for_it (walk_tup (xs := rfs [c])) (fun j σ H' => ∃ s4, σ = [some (.ref a), some (.ref b), some (.ref F), some (.ref e.1), s4] ∧ Same H (del H' F) ∧ ∃ ms : List AP, H' F = some (.lst (rfs ms)) ∧ ms.map Prod.snd = (kp.take i).map M23.redOf ++ List.replicate j (M23.redOf e.2) ∧ Prods K (del H' F) ms) ⟨_, rfl, sH, ms, hF, by rw [hms]; simp, hPm⟩ (fun j σ H' _ pp => by obtain ⟨_, _, sH, _⟩ := pp; exact sqT_same b1 (sH.trans delLe)) (fun j x σ H5 H6 hj pp y => ?_) (fun σ H5 pp => ?_)
      · obtain ⟨s4, rfl, sH, ms, hF, hms, hPm⟩ := pp
        obtain ⟨rfl, yy⟩ := y
        have hj0 : j = 0 := by have : (rfs [c]).length = 1 := rfl; omega
        subst hj0
        obtain rfl : V.ref c.1 = x := Option.some.inj yy
        have hem := List.mem_of_getElem? he
        have hkm := List.mem_of_getElem? hkb
        have hml : ms.length ≤ 20 := by have := congrArg List.length hms; simp at this; omega
        have sHH := sH.trans delLe
        refine ⟨_, rfl, .inl ⟨rfl, _, .inl (.inl hF)⟩, _, rfl, _, rfl, .ref e.1, .ref c.1, sg, e.2, rfl, pd_dp (sqT_same (a3 e hem) sHH), by rw [← hc]; exact pd_dp (sqT_same (b3 c List.mem_cons_self) sHH), hO.lets, (hO.pd e.2 hkm).1, (hO.pd e.2 hkm).2, fun H7 l ls s7 nl hl hP hls => ?_⟩
        have hF7 := s7 _ _ hF
        have nlF : l ≠ F := fun z => by rw [z, hF] at nl; cases nl
        have hls1 : ls.length = 1 := by have := congrArg List.length hls; simpa using this
        have z1 : (rfs ms).length = ms.length := List.length_map _
        have z2 : (rfs ls).length = ls.length := List.length_map _
        refine ⟨F, l, _, _, rfl, rfl, hF7, hl, by rw [z1, z2, sizeLine_eq]; omega, _, rfl, ?_, ms ++ ls, ?_, ?_, ?_⟩
        · rw [delUpd]
          exact sH.trans (delMono s7)
        · rw [upd_same]; unfold rfs; rw [List.map_append]
        · rw [List.map_append, hms, hls]; simp
        · rw [delUpd]
          intro b hb
          rcases List.mem_append.mp hb with hb | hb
          · exact sqT_same (hPm b hb) (delMono s7)
          · exact sqT_delL hF7 (hP b hb)
      · obtain ⟨s4, rfl, sH, ms, hF, hms, hPm⟩ := pp
        refine ⟨_, _, rfl, sH, ms, hF, ?_, hPm⟩
        rw [hms, List.take_add_one, hkb, List.map_append]
        rfl
    · obtain ⟨s3, s4, rfl, sH, ms, hF, hms, hPm⟩ := pp
      rw [hbl, hbk, List.take_length] at hms
      have hml : ms.length ≤ 20 := by have := congrArg List.length hms; simp at this; omega
      have hmm : ∀ b ∈ ms, b.2.length ≤ 100 ∧ ∀ y ∈ b.2, TxOk y := fun b hb => by
        have hm : b.2 ∈ ms.map Prod.snd := List.mem_map_of_mem hb
        rw [hms] at hm
        obtain ⟨k, hk, ek⟩ := List.mem_map.mp hm
        obtain ⟨o1, o2⟩ := hO.pd k hk
        rw [← ek]
        exact ⟨Nat.le_trans (M23.redOf_len k) (by omega), fun y hy => (o1 y (M23.redOf_mem hy)).tx hO.lets⟩
      refine ⟨_, rfl, F, ms, rfl, .inl (.inl (.inl hF)), hPm.same delLe, hml, fun b hb => (hmm b hb).1, fun b hb => (hmm b hb).2, fun H7 p ls s7 np hp hP hls => ?_⟩
      have sHH := sH.trans delLe
      exact q _ p ls (sHH.trans s7) (sHH.free np) hp hP (by rw [hls, hms])
theorem catA_go {H : Hp} {a b : Addr} {xs ys : List V} {Q : VK} (ha : SqT K H a xs) (hb : SqT K H b ys) (hz : xs.length + ys.length ≤ sizeLine) (q : ∀ H' c, Same H H' → SqT K H' c (xs ++ ys) → Q (.ref c) H') : rCatA K (.ref a) (.ref b) H Q :=
  ⟨a, b, xs, ys, rfl, rfl, ha, hb, hz, fun e => q H b (Same.refl _) (by rw [e]; exact hb), fun _ e => q H a (Same.refl _) (by rw [e, List.append_nil]; exact ha), fun _ _ p np => q _ p (same_upd np) (.inl (.inl upd_same))⟩
def spAnd (K : PySem.W.Frag) (C : Addr) : Sp := fun vs H Q _ => ∃ (a b : Addr) (sg : List Nat) (kp : List M23.Pd), vs = [.ref a, .ref b] ∧ SumO C K H a sg kp ∧ SumO C K H b sg [[sg ++ [42]]] ∧ SOk sg kp ∧ (∀ p ∈ kp, p.length ≤ 12) ∧ NewS K C H Q sg (M23.kept (M23.kept (kp.map M23.redOf)))
theorem ok_Sum_and (T : All K mg) : FnOk P w K mg base CX0 12 T.f_Sum_and T.d_Sum_and ["self", "other"] (spAnd K T.C_Sum) := by
  refine T.Sum_and.F.ok sc_Sum_and (fun vs H Q E h => ?_) (fun cdv A outer s H vs Q E hr h => ?_)
  · obtain ⟨a, b, sg, kp, rfl, _⟩ := h
    rfl
  · obtain ⟨a, b, sg, kp, rfl, hM, hN, hO, hz, q⟩ := h
    obtain ⟨dx, t, hat, hd⟩ := hM.at_
    obtain ⟨dx', t', hat', hd'⟩ := hN.at_
    obtain ⟨tk, hMOST_PIECES⟩ := T.c_MOST_PIECES
    refine ⟨_, pss_cons (ps_expr (pe_meth (pv 0) T.cl_Sum T.Sum_want_other.m (ok_Sum_want_other T) (hr.mono (by decide)) T.Sum_want_other.b .nil pass0 (pa_cons (pv 1) pa_nil)))
      (pss_cons (ps_setLc (i := 2) (own := [("product", 3)]) (g := gName 3) (tt := tYes) (by rfl) sc_Sum_and.nd rfl rfl (sw_true rfl rfl rfl (by decide +kernel)) (pi_tup (pe_op (op_catAK (K := K) rfl) (pe_fld (pv 0) rfl) (pe_fld (pv 1) rfl)))
          (blkOk_by (own := [("product", 3)]) (N := ["self", "other", "sizes", "product"]) (sc := defScope s_Sum_and) (by decide +kernel))
          (fun _ _ _ _ _ => pg_name (i := 3) sc_Sum_and.nd rfl (by first | exact Or.inl rfl | exact Or.inr rfl)) (fun _ _ _ _ _ => pts_nil)
          (fun _ _ _ _ _ => (pe_callB (call_len_seqK (K := K) rfl) (by rfl) T.b_len PySem.boot_len (pa_cons (pv 3) pa_nil))))
      (pss_cons (ps_expr (pe_call (ok_want_few T) (hr.mono (by decide)) (by rfl) T.want_few.g T.want_few.F.kp T.want_few.b .nil pass0 (pa_cons pe_str (pa_cons (pe_callB (cr_max rfl) (by rfl) T.b_max PyProof.Rows.boot_max (pa_cons (pe_op op_cat (pe_lst (pa_cons pe_int pa_nil)) (pv 2)) pa_nil)) (pa_cons (pe_glob (v := .int 12) rfl hMOST_PIECES ⟨_, rfl⟩) pa_nil)))))
      (pss_one (ps_ret (pe_make ⟨T.mk_Sum, T.Sum_init.m.at_, T.Sum_init.m.fn, T.kp_Sum⟩ (ok_Sum_init T) (hr.mono (by decide)) (by rfl) T.g_Sum T.Sum_init.b .nil pass0 (pa_cons (pe_fld (pv 0) rfl) (pa_cons (pe_call (ok_meets_of T) (hr.mono (by decide)) (by rfl) T.meets_of.g T.meets_of.F.kp T.meets_of.b .nil pass0 (pa_cons (pe_fld (pv 0) rfl) (pa_cons (pe_fld (pv 1) rfl) pa_nil))) pa_nil))))))), ?_⟩
    refine ⟨_, rfl, a, dx, _, rfl, hat, rfl, _, rfl, a, b, sg, kp, _, rfl, hM, hN, ?_⟩
    dsimp only [cxOf]
    obtain ⟨bs, a1, a2, a3⟩ := dpT_at hd
    obtain ⟨cs, b1, b2, b3⟩ := dpT_at hd'
    have hcl : cs.length = 1 := by have := congrArg List.length b2; simpa using this
    have hbk : bs.length = kp.length := by rw [← a2, List.length_map]
    have hfew := hO.few
    have zb : (rfs bs).length = bs.length := List.length_map _
    have zc : (rfs cs).length = cs.length := List.length_map _
    have e0 : rfs bs ++ rfs cs = rfs (bs ++ cs) := by unfold rfs; rw [List.map_append]
    have hzz : ∀ b ∈ bs ++ cs, b.2.length ≤ 12 := fun b hb => by
      rcases List.mem_append.mp hb with hb | hb
      · exact hz _ (a2 ▸ List.mem_map_of_mem hb)
      · have hm : b.2 ∈ cs.map Prod.snd := List.mem_map_of_mem hb
        rw [b2, List.mem_singleton] at hm
        rw [hm]
        show 1 ≤ 12
        decide
    refine ⟨_, rfl, a, T.C_Sum, dx, _, _, rfl, hat, T.cl_Sum, T.n_Sum_own_products, rfl, _, rfl, b, T.C_Sum, dx', _, _, rfl, hat', T.cl_Sum, T.n_Sum_own_products, rfl, ?_⟩
    refine catA_go a1 b1 (by rw [zb, zc, sizeLine_eq]; omega) fun H1 c0 s1 hc0 => ?_
    rw [e0] at hc0
    refine ⟨c0, rfl, ⟨_, hc0⟩, fun D nD => ?_⟩
    have hzr : (rfs (bs ++ cs)).length = (bs ++ cs).length := List.length_map _
    have hla : (bs ++ cs).length ≤ 21 := by rw [List.length_append]; omega
    refine lc_gen (walk_tup (xs := rfs (bs ++ cs))) (Same H1) (fun j acc => acc = ((bs ++ cs).take j).map fun b => V.int ((b.2.length : Nat) : Int)) (sz (by rw [hzr]; omega)) (fun i acc e => by rw [e, List.length_map, List.length_take]; omega) rfl (same_upd nD) (fun _ _ h => same_up h nD) (fun _ h => sqT_same hc0 h) (fun j x H4 H5 acc C N hj r hD ha y c n => ?_) (fun H4 xs r hD ha => ?_)
    · obtain ⟨rfl, yy⟩ := y
      rw [show (rfs (bs ++ cs))[j]? = ((bs ++ cs)[j]?).map fun b => V.ref b.1 from List.getElem?_map] at yy
      obtain ⟨m, hm, rfl⟩ := Option.map_eq_some_iff.mp yy
      have hmm : SqT K H m.1 (m.2.map tx) := by
        rcases List.mem_append.mp (List.mem_of_getElem? hm) with h | h
        · exact a3 m h
        · exact b3 m h
      refine ⟨rfl, yes_te ?_⟩
      refine ⟨_, rfl, m.1, _, rfl, .inr (sqT_same hmm (s1.trans r)), c _ _ r hD ?_⟩
      rw [ha, List.take_add_one, hm, List.map_append, List.length_map]
      rfl
    · subst ha
      rw [hzr, List.take_length] at hD
      dsimp only [gName]
      refine ⟨by show 1 ≤ sizeLine; decide, fun p0 n0 => ?_⟩
      have sp0 := same_upd (o := .lst [.int 0]) n0
      have hp0 := upd_same (H := H4) (a := p0) (o := .lst [.int 0])
      have hD0 := sp0 _ _ hD
      have s14 := s1.trans (r.trans sp0)
      generalize upd H4 p0 (.lst [.int 0]) = H6 at *
      have eL : [V.int 0] ++ (bs ++ cs).map (fun b => V.int ((b.2.length : Nat) : Int)) = ((0 : Int) :: (bs ++ cs).map fun b => ((b.2.length : Nat) : Int)).map V.int := by
        rw [List.map_cons, List.map_map]
        rfl
      refine ⟨_, rfl, p0, D, _, _, rfl, rfl, hp0, hD0, by rw [List.length_map, sizeLine_eq]; show 1 + _ ≤ _; omega, fun p1 n1 => ?_⟩
      rw [eL]
      have sp1 := same_upd (o := .lst (((0 : Int) :: (bs ++ cs).map fun b => ((b.2.length : Nat) : Int)).map V.int)) n1
      have s15 := s14.trans sp1
      refine ⟨p1, _, rfl, .inl (.inl upd_same), Nat.succ_pos _, fun m hm _ => ?_⟩
      have hm12 : m ≤ 12 := by
        rcases List.mem_cons.mp hm with rfl | hm
        · decide
        · obtain ⟨b, hb, rfl⟩ := List.mem_map.mp hm
          have := hzz b hb
          omega
      refine ⟨_, m, 12, rfl, hm12, ?_⟩
      generalize upd H6 p1 (.lst (((0 : Int) :: (bs ++ cs).map fun b => ((b.2.length : Nat) : Int)).map V.int)) = H7 at *
      refine ⟨_, rfl, a, T.C_Sum, dx, _, _, rfl, s15 _ _ hat, T.cl_Sum, T.n_Sum_own_letters, rfl, _, rfl, a, T.C_Sum, dx, _, _, rfl, s15 _ _ hat, T.cl_Sum, T.n_Sum_own_products, rfl, _, rfl, b, T.C_Sum, dx', _, _, rfl, s15 _ _ hat', T.cl_Sum, T.n_Sum_own_products, rfl, t, t', sg, kp, rfl, Dp.same s15 hd, Dp.same s15 hd', hO, fun H8 kl ks s8 nkl hkl hPk hks => ?_⟩
      have s16 := s15.trans s8
      intro x dx2 nx ndx _
      have hkm : ∀ q ∈ M23.kept (kp.map M23.redOf), PdOk sg q ∧ q.length ≤ 100 := fun q hq => by
        obtain ⟨r, hr', e⟩ := M23.kept_mem hq
        obtain ⟨k, hk, e2⟩ := List.mem_map.mp hr'
        obtain ⟨o1, o2⟩ := hO.pd k hk
        rw [e, ← e2]
        refine ⟨fun y hy => o1 y (M23.redOf_mem (M23.redOf_mem hy)), ?_⟩
        have l1 := M23.redOf_len k
        have l2 := M23.redOf_len (M23.redOf k)
        omega
      refine make_s hO.lets (ps := M23.kept (kp.map M23.redOf)) ⟨ks, sq_list (.inl (.inl hkl)), hks, hPk⟩ (fun q hq => (hkm q hq).1) ?_ (fun q hq => (hkm q hq).2) nx ndx (fun H2 s2 hM2 => q _ _ (s16.trans s2) (s16.free nx) hM2)
      have := M23.kept_len (kp.map M23.redOf)
      rw [List.length_map] at this
      omega
end
end Lw
namespace Lw
open PySem PySem.Spec PyProof.Rows L3
open L2 hiding del del_same del_ne
theorem sqT_off {K : PySem.W.Frag} {H H' : Hp} {a c : Addr} {xs : List V} (hp : Pot H a) (o : Off a H H') (h : SqT K H c xs) : SqT K H' c xs := by
  obtain ⟨x, y, hx, _⟩ := hp
  rcases h with (h | ⟨o', h⟩) | h
  · exact .inl (.inl (o _ _ h fun e => by rw [e, hx] at h; cases h))
  · exact .inl (.inr ⟨o', o _ _ h fun e => by rw [e, hx] at h; cases h⟩)
  · exact .inr h
theorem Prods.off {K : PySem.W.Frag} {H H' : Hp} {a : Addr} {bs : List AP} (hp : Pot H a) (o : Off a H H') (h : Prods K H bs) : Prods K H' bs := fun b hb => sqT_off hp o (h b hb)
theorem flat_one : ∀ l : List Nat, (l.map fun c => [c]).flatten = l
  | [] => rfl
  | c :: l => by show c :: (l.map fun c => [c]).flatten = _; rw [flat_one l]
section
variable {P : Program} {w : World} {K : PySem.W.Frag} {mg : Str → Option Value} {base : Heap}
def spPiece : Sp := fun vs H Q _ => ∃ (a : Addr) (sg : List Nat), vs = [.ref a, tx sg] ∧ Pot H a ∧ Lets sg ∧ ∀ (H' : Hp) (x : List Nat), PcOk sg x → Pot H' a → Off a H H' → Q (tx x) H'
theorem ok_law_piece (T : All K mg) : FnOk P w K mg base CX0 3 T.f_law_piece T.d_law_piece ["_law_pot_here", "_law_signs"] spPiece := by
  refine T.law_piece.F.ok sc_law_piece (fun vs H Q E h => ?_) (fun cdv A outer s H vs Q E hr h => ?_)
  · obtain ⟨a, sg, rfl, _⟩ := h
    rfl
  · obtain ⟨a, sg, rfl, hp, hl, q⟩ := h
    refine ⟨_, pss_cons (ps_if (pt_cmpR op_eq (pe_call (ok_law_draw T) (hr.mono (by decide)) (by rfl) T.law_draw.g T.law_draw.F.kp T.law_draw.b .nil pass0 (pa_cons (pv 0) (pa_cons pe_int pa_nil))) pe_int (nomark _)) (pss_one (ps_ret (pe_call (ok_law_pick T) (hr.mono (by decide)) (by rfl) T.law_pick.g T.law_pick.F.kp T.law_pick.b .nil pass0 (pa_cons (pv 0) (pa_cons (pv 1) pa_nil))))) pss_nil)
      (pss_cons (ps_setLc (i := 2) (own := [("_law_sign", 3)]) (g := gName 3) (by rfl) sc_law_piece.nd rfl rfl (sw_true rfl rfl rfl (by decide +kernel)) (pi_str (pv 1))
          (blkOk_by (own := [("_law_sign", 3)]) (N := ["_law_pot_here", "_law_signs", "_law_some", "_law_sign"]) (sc := defScope s_law_piece) (by decide +kernel))
          (fun _ _ _ _ _ => pg_name (i := 3) sc_law_piece.nd rfl (by first | exact Or.inl rfl | exact Or.inr rfl)) (fun _ _ _ _ _ => (pts_one (pt_cmpR op_eq (pe_call (ok_law_draw T) (hr.mono (by decide)) (by rfl) T.law_draw.g T.law_draw.F.kp T.law_draw.b .nil pass0 (pa_cons (pv 0) (pa_cons pe_int pa_nil))) pe_int (nomark _))))
          (fun _ _ _ _ _ => (pv 3)))
      (pss_one (ps_ret (pe_op op_addT (pe_join pe_str (pe_ifExp (pt_cmpR (op_neD (u64 hr)) (pv 2) (pe_lst pa_nil) (nomark _)) (pv 2) (pe_lst (pa_cons (pe_call (ok_law_pick T) (hr.mono (by decide)) (by rfl) T.law_pick.g T.law_pick.F.kp T.law_pick.b .nil pass0 (pa_cons (pv 0) (pa_cons (pv 1) pa_nil))) pa_nil)))) pe_str)))), ?_⟩
    dsimp only [cxOf]
    have hne : sg ≠ [] := fun e => by have := hl.ne; rw [e] at this; simp at this
    have hsl := hl.few
    refine ⟨_, rfl, a, 2, rfl, hp, by decide, by decide, fun H1 d hd hp1 ho1 => ⟨rfl, _, rfl, ite2 (fun e => ?_) (fun e => ?_)⟩⟩
    · exact ⟨_, rfl, _, rfl, a, tx sg, rfl, hp1, .inl ⟨sg, rfl, hne, by omega, fun H2 c hc hp2 ho2 => q _ _ (.inl ⟨c, hc, rfl⟩) hp2 (ho1.trans ho2)⟩⟩
    · dsimp only [tNext]
      refine ⟨_, rfl, tS sg, rfl, fun D nD => ?_⟩
      have naD := hp1.ne nD
      refine lc_it (walk_str (z := tS sg)) (fun i H' => Pot H' a ∧ Off a H1 H' ∧ ∃ l : List Nat, H' D = some (.lst (l.map fun c => tx [c])) ∧ l.Sublist (sg.take i)) ⟨hp1.up naD, (Off.refl a H1).up nD, [], upd_same, List.Sublist.refl _⟩ (fun _ _ _ _ => trivial) (fun i x H2 H3 hi pp yy => ?_) (fun H2 pp => ?_)
      · obtain ⟨hp2, ho2, l, hD, hsub⟩ := pp
        obtain ⟨rfl, c, hc, rfl⟩ := yy
        have hc : sg.toArray[i]? = some c := hc
        rw [List.getElem?_toArray] at hc
        have hll : l.length ≤ i := Nat.le_trans hsub.length_le (by rw [List.length_take]; omega)
        have hi3 : i < sg.length := by have : i < sg.toArray.size := hi; rw [List.size_toArray] at this; exact this
        refine ⟨rfl, ⟨_, rfl, a, 2, rfl, hp2, by decide, by decide, fun H4 d2 hd2 hp4 ho4 => ⟨rfl, _, rfl, ite2 (fun e2 => ?_) (fun e2 => ?_)⟩⟩⟩
        · have hD4 := ho4 _ _ hD naD.symm
          refine ⟨_, rfl, _, hD4, by rw [List.length_map]; exact Nat.lt_of_lt_of_le (by omega : l.length < 100) (sz (by decide)), hp4.up naD, (ho2.trans ho4).up nD, l ++ [c], ?_, ?_⟩
          · rw [upd_same, List.map_append]; rfl
          · rw [List.take_add_one, hc]
            exact hsub.append (List.Sublist.refl _)
        · exact ⟨hp4, ho2.trans ho4, l, ho4 _ _ hD naD.symm, hsub.trans (by rw [List.take_add_one]; exact List.sublist_append_left _ _)⟩
      · obtain ⟨hp2, ho2, l, hD, hsub⟩ := pp
        have hz3 : (tS sg).cps.size = sg.length := List.size_toArray
        rw [hz3, List.take_length] at hsub
        have hll := hsub.length_le
        dsimp only [gName]
        refine ⟨⟨_, rfl⟩, _, rfl, by show 0 ≤ sizeLine; decide, fun p0 n0 => ?_⟩
        have s0 := same_upd (o := .lst []) n0
        have h0 := upd_same (H := H2) (a := p0) (o := .lst [])
        have hD0 := s0 _ _ hD
        have hp3 := hp2.same s0
        have ho3 := ho1.trans (ho2.trans (Off.of s0))
        generalize upd H2 p0 (.lst []) = H3 at *
        have elm : l.map (fun c => tx [c]) = (l.map fun c => [c]).map tx := by rw [List.map_map]; rfl
        have hwt : Wt (.list ((l.map fun c => [c]).map fun x => PyData.str (tS x))) (3 * 20) 1 := by
          refine Wt.list (w := 2) (k := 0) (fun d hd => ?_) (by rw [List.length_map, List.length_map]; omega)
          obtain ⟨x, hx, rfl⟩ := List.mem_map.mp hd
          obtain ⟨c, hc, rfl⟩ := List.mem_map.mp hx
          exact Wt.text (fun y hy => by rw [List.mem_singleton.mp hy]; have := hl.az c (hsub.subset hc); omega) (by show 1 ≤ 2; decide)
        have hdp : Dp K H3 (.ref D) (.list ((l.map fun c => [c]).map fun x => PyData.str (tS x))) := .lst (.inl (.inl (by rw [hD0, elm]))) (dp_txs _)
        refine ⟨_, .list [], hdp, .lst (.inl (.inl h0)) .nil, hwt.shaped (by decide), (by decide +kernel), _, rfl, ite2 (fun e2 => ?_) (fun e2 => ?_)⟩
        · have hln : l ≠ [] := fun z => by subst z; revert e2; decide +kernel
          have hln2 : ∀ m ∈ l.map (fun c => [c]), m.length ≤ 1 := fun m hm => by
            obtain ⟨c, _, rfl⟩ := List.mem_map.mp hm
            exact Nat.le_refl _
          have hs3 := sum_len 1 _ hln2
          refine ⟨_, rfl, _, D, (l.map fun c => [c]).map tS, rfl, rfl, .inl (by rw [map_tx]; exact .inl (.inl (by rw [hD0, elm]))), ?_, ?_⟩
          · rw [List.length_map, List.length_map, show (("" : Str)).length = 0 from rfl]
            rw [List.length_map] at hs3
            omega
          rw [join_e, flat_one]
          refine ⟨l, [42], rfl, rfl, by rw [sizeLine_eq, List.length_singleton]; omega, ?_⟩
          exact q _ _ (.inr ⟨l, hln, hl.up.sublist hsub, fun c hc => hsub.subset hc, rfl⟩) hp3 ho3
        · refine ⟨_, rfl, _, rfl, a, tx sg, rfl, hp3, .inl ⟨sg, rfl, hne, by omega, fun H4 c hc hp4 ho4 => ⟨by show 1 ≤ sizeLine; decide, fun p1 n1 => ?_⟩⟩⟩
          have naP := hp4.ne n1
          refine ⟨_, p1, [[c]].map tS, rfl, rfl, .inl (.inl (.inl upd_same)), by show 1 + 1 * 0 ≤ 16777216; decide, ?_⟩
          rw [join_e]
          refine ⟨[c], [42], rfl, rfl, by show 1 + 1 ≤ sizeLine; decide, ?_⟩
          exact q _ _ (.inr ⟨[c], by simp, by simp, fun d hd => by rw [List.mem_singleton.mp hd]; exact hc, rfl⟩) (hp4.up naP) ((ho3.trans ho4).trans (Off.of (same_upd n1)))
end
end Lw
namespace Lw
open PySem PySem.Spec PyProof.Rows L3
open L2 hiding del del_same del_ne
section
variable {P : Program} {w : World} {K : PySem.W.Frag} {mg : Str → Option Value} {base : Heap}
theorem pe_joinK {X : Cx} {o e : Expr} {to te : TE} {pos apos : Pos} {K : PySem.W.Frag} (hK : X.K = K) (ho : PE X o to) (he : PE X e te) (hs : starEach [e] X.env = [(false, eval e X.env)] := by rfl) (hbase : attributeBase o "join" X.env (eval o X.env) = eval o X.env := by rfl) (hline : (apos.endLine == pos.line) = true := by rfl) :
    PE X (.Call (.Attribute o "join" apos) [e] [] pos) (tM1 (fun x xs H Q => ∃ a p, ∃ ys : List Str, x = .str a ∧ xs = [.ref p] ∧ (SqL K H p (ys.map V.str) ∨ SqT K H p (ys.map V.str)) ∧
      (ys.map (·.length)).sum + ys.length * a.length ≤ 16777216 ∧ Q (.str (Txt.join a ys)) H) to te) := by
  subst hK
  exact pe_join ho he hs hbase hline
def spLProds (K : PySem.W.Frag) : Sp := fun vs H Q _ => ∃ (a : Addr) (sg : List Nat), vs = [.ref a, tx sg] ∧ Pot H a ∧ Lets sg ∧
  ∀ (H' : Hp) (l : Addr) (bs : List AP), Pot H' a → Off a H H' → H l = none → H' l = some (.lst (rfs bs)) → Prods K H' bs → bs.length ≤ 6 → (∀ b ∈ bs, PdOk sg b.2 ∧ b.2.length ≤ 12) → Q (.ref l) H'
theorem ok_law_products (T : All K mg) : FnOk P w K mg base CX0 5 T.f_law_products T.d_law_products ["_law_pot_here", "_law_signs"] (spLProds K) := by
  refine T.law_products.F.ok sc_law_products (fun vs H Q E h => ?_) (fun cdv A outer s H vs Q E hr h => ?_)
  · obtain ⟨a, sg, rfl, _⟩ := h
    rfl
  · obtain ⟨a, sg, rfl, hp, hl, q⟩ := h
    refine ⟨_, pss_cons (ps_set (i := 2) sc_law_products.nd rfl (by first | exact Or.inl rfl | exact Or.inr rfl) (pe_lst pa_nil))
      (pss_cons (ps_for PassesOwn.never rfl (pi_range1 rfl T.b_range (pa_cons (pe_call (ok_law_draw T) (hr.mono (by decide)) (by rfl) T.law_draw.g T.law_draw.F.kp T.law_draw.b .nil pass0 (pa_cons (pv 0) (pa_cons pe_int pa_nil))) pa_nil)) (pg_name (i := 3) sc_law_products.nd rfl (by first | exact Or.inl rfl | exact Or.inr rfl))
        (pss_cons (ps_set (i := 4) sc_law_products.nd rfl (by first | exact Or.inl rfl | exact Or.inr rfl) (pe_call (ok_law_pick T) (hr.mono (by decide)) (by rfl) T.law_pick.g T.law_pick.F.kp T.law_pick.b .nil pass0 (pa_cons (pv 0) (pa_cons (pe_lst (pa_cons pe_int (pa_cons pe_int (pa_cons pe_int (pa_cons pe_int (pa_cons pe_int (pa_cons pe_int (pa_cons pe_int pa_nil)))))))) pa_nil))))
      (pss_one (ps_expr (pe_bm PySem.F.plainAttrs_list PySem.F.slot_list_append PySem.F.type_list_append mt_append (pv 2) (pa_cons (pe_callTy call_tuple_of (by rfl) T.b_tuple (show bootBuiltins "tuple" = some (.type "tuple") by decide +kernel) (pa_cons (pe_lc (own := [("_law_more", 5)]) (g := gName 5) (tt := tYes) rfl sc_law_products.nd (pi_range1 rfl T.b_range (pa_cons (pv 4) pa_nil))
          (blkOk_by (own := [("_law_more", 5)]) (N := ["_law_pot_here", "_law_signs", "_law_found", "_law_turn", "_law_many", "_law_more"]) (sc := defScope s_law_products) (by decide +kernel))
          (fun _ _ _ _ _ => pg_name (i := 5) sc_law_products.nd rfl (by first | exact Or.inl rfl | exact Or.inr rfl)) (fun _ _ _ _ _ => pts_nil)
          (fun _ _ _ _ _ => (pe_call (ok_law_piece T) (hr.mono (by decide)) (by rfl) T.law_piece.g T.law_piece.F.kp T.law_piece.b .nil pass0 (pa_cons (pv 0) (pa_cons (pv 1) pa_nil))))) pa_nil)) pa_nil))))))
      (pss_one (ps_ret (pv 2)))), ?_⟩
    dsimp only [cxOf]
    have hsize : sizeLine = 16777216 := sizeLine_eq
    refine ⟨by show 0 ≤ sizeLine; decide, fun F nF => ?_⟩
    have naF := hp.ne nF
    refine ⟨_, rfl, a, 7, rfl, hp.up naF, by decide, by decide, fun H1 d hd hp1 ho1 => ?_⟩
    have o01 : Off a H H1 := fun b o e n => ho1 _ _ (by rw [upd_ne (ne_of_none e nF)]; exact e) n
    have hF1 : H1 F = some (.lst (rfs [])) := ho1 _ _ upd_same naF.symm
    refine ⟨_, rfl, by omega, by omega, ?_⟩
    rw [show ((d : Int)).toNat = d by omega]
    refine for_it walk_range (fun i σ H' => ∃ s3 s4 s5, σ = [some (.ref a), some (tx sg), some (.ref F), s3, s4, s5] ∧ Pot H' a ∧ Off a H H' ∧ ∃ bs : List AP, H' F = some (.lst (rfs bs)) ∧ bs.length = i ∧ Prods K H' bs ∧ ∀ b ∈ bs, PdOk sg b.2 ∧ b.2.length ≤ 12) ⟨_, _, _, rfl, hp1, o01, [], hF1, rfl, (fun b h => nomatch h), (fun b h => nomatch h)⟩ (fun _ _ _ _ _ => trivial) (fun i x σ H2 H3 hi pp y => ?_) (fun σ H2 pp => ?_)
    · obtain ⟨s3, s4, s5, rfl, hp2, o2, bs, hF, hbl, hP, hbo⟩ := pp
      obtain ⟨rfl, rfl⟩ := y
      refine ⟨_, rfl, by show 7 ≤ sizeLine; decide, fun pl npl => ?_⟩
      have spl := same_upd (o := .lst [.int 0, .int 1, .int 2, .int 3, .int 4, .int 6, .int 12]) npl
      refine ⟨a, .ref pl, rfl, hp2.same spl, .inr ⟨pl, _, rfl, (hp2.ne npl).symm, .inl (.inl upd_same), by simp, by show 7 ≤ 1000; decide, fun H4 v hv hp4 ho4 => ?_⟩⟩
      obtain ⟨n, rfl, hn⟩ : ∃ n : Nat, v = .int (n : Int) ∧ n ≤ 12 := by
        simp only [List.mem_cons, List.not_mem_nil, or_false] at hv
        rcases hv with rfl | rfl | rfl | rfl | rfl | rfl | rfl
        · exact ⟨0, rfl, by decide⟩
        · exact ⟨1, rfl, by decide⟩
        · exact ⟨2, rfl, by decide⟩
        · exact ⟨3, rfl, by decide⟩
        · exact ⟨4, rfl, by decide⟩
        · exact ⟨6, rfl, by decide⟩
        · exact ⟨12, rfl, by decide⟩
      have o24 := (Off.of spl).trans ho4
      have hF4 := o24 _ _ hF naF.symm
      have hP4 := hP.off hp2 o24
      refine ⟨_, rfl, .inl ⟨rfl, _, .inl (.inl hF4)⟩, _, rfl, _, rfl, by omega, by omega, ?_⟩
      rw [show ((n : Int)).toNat = n by omega]
      intro D nD
      have naD := hp4.ne nD
      refine lc_it walk_range (fun i H' => Pot H' a ∧ Off a H4 H' ∧ ∃ p : M23.Pd, PdOk sg p ∧ p.length = i ∧ H' D = some (.lst (p.map tx))) ⟨hp4.up naD, (Off.refl a H4).up nD, [], (fun x h => by cases h), rfl, upd_same⟩ (fun _ _ _ _ => trivial) (fun i x H5 H6 hi pp yy => ?_) (fun H5 pp => ?_)
      · obtain ⟨hp5, ho5, p, hpk, hpl, hD⟩ := pp
        obtain ⟨rfl, rfl⟩ := yy
        refine ⟨rfl, yes_te ⟨_, rfl, _, rfl, a, sg, rfl, hp5, hl, fun H7 x hx hp7 ho7 => ?_⟩⟩
        have hD7 := ho7 _ _ hD naD.symm
        refine ⟨_, hD7, by rw [List.length_map]; omega, hp7.up naD, (ho5.trans ho7).up nD, p ++ [x], ?_, by rw [List.length_append, hpl]; rfl, ?_⟩
        · intro y hy
          rcases List.mem_append.mp hy with hy | hy
          · exact hpk y hy
          · rw [List.mem_singleton.mp hy]; exact hx
        · rw [upd_same, List.map_append]; rfl
      · obtain ⟨hp5, ho5, p, hpk, hpl, hD⟩ := pp
        refine ⟨D, p.map tx, rfl, .inl ⟨.inl (.inl hD), fun b nb => ?_⟩⟩
        have nab := hp5.ne nb
        have sb := same_upd (o := .tup (p.map tx)) nb
        have hF5 := sb _ _ (ho5 _ _ hF4 naF.symm)
        have hP5 := (hP4.off hp4 ho5).same sb
        have hb5 := upd_same (H := H5) (a := b) (o := .tup (p.map tx))
        have hp6 := hp5.same sb
        have o6 := o2.trans (o24.trans (ho5.trans (Off.of sb)))
        generalize upd H5 b (.tup (p.map tx)) = H8 at *
        refine ⟨F, _, _, rfl, rfl, hF5, by unfold rfs; rw [List.length_map]; omega, ?_⟩
        refine ⟨_, _, _, rfl, hp6.up naF, o6.up nF, bs ++ [(b, p)], ?_, by rw [List.length_append, hbl]; rfl, fun c hc => ?_, fun c hc => ?_⟩
        · rw [upd_same]; unfold rfs; rw [List.map_append]; rfl
        · rcases List.mem_append.mp hc with hc | hc
          · exact sqT_upL hF5 (hP5 c hc)
          · rw [List.mem_singleton.mp hc]
            exact sqT_upL hF5 (.inl (.inl hb5))
        · rcases List.mem_append.mp hc with hc | hc
          · exact hbo c hc
          · rw [List.mem_singleton.mp hc]
            exact ⟨hpk, by show p.length ≤ 12; omega⟩
    · obtain ⟨s3, s4, s5, rfl, hp2, o2, bs, hF, hbl, hP, hbo⟩ := pp
      exact ⟨_, rfl, q _ F bs hp2 o2 nF hF hP (by omega) hbo⟩
def spLText (K : PySem.W.Frag) : Sp := fun vs H Q _ => ∃ (l : Addr) (sg : List Nat) (bs : List AP) (kp : List M23.Pd), vs = [tx sg, .ref l] ∧ SqL K H l (rfs bs) ∧ Prods K H bs ∧ bs.map Prod.snd = kp ∧ SOk sg kp ∧ ∀ H', Same H H' → Q (tx (sText sg kp)) H'
theorem ok_law_text (T : All K mg) : FnOk P w K mg base CX0 2 T.f_law_text T.d_law_text ["_law_signs", "_law_products_here"] (spLText K) := by
  refine T.law_text.F.ok sc_law_text (fun vs H Q E h => ?_) (fun cdv A outer s H vs Q E hr h => ?_)
  · obtain ⟨l, sg, bs, kp, rfl, _⟩ := h
    rfl
  · obtain ⟨l, sg, bs, kp, rfl, hS, hP, hbs, hO, q⟩ := h
    refine ⟨_, pss_cons (ps_set (i := 2) sc_law_text.nd rfl (by first | exact Or.inl rfl | exact Or.inr rfl) (pe_op op_cat (pe_lst (pa_cons (pe_op op_addT pe_str (pv 0)) pa_nil)) (pe_lc (own := [("_law_product", 3)]) (g := gName 3) (tt := tYes) rfl sc_law_text.nd (pi_list (pv 1))
          (blkOk_by (own := [("_law_product", 3)]) (N := ["_law_signs", "_law_products_here", "_law_lines", "_law_product", "_law_line_here"]) (sc := defScope s_law_text) (by decide +kernel))
          (fun _ _ _ _ _ => pg_name (i := 3) sc_law_text.nd rfl (by first | exact Or.inl rfl | exact Or.inr rfl)) (fun _ _ _ _ _ => pts_nil)
          (fun _ _ _ _ _ => (pe_joinK (K := K) rfl pe_str (pe_op op_cat (pe_lst (pa_cons pe_str pa_nil)) (pe_callTy (call_list_ofK (K := K) rfl) (by rfl) T.b_list PyProof.Rows.boot_list (pa_cons (pv 3) pa_nil))))))))
      (pss_one (ps_ret (pe_joinK (K := K) rfl pe_str (pe_lc (own := [("_law_line_here", 4)]) (g := gName 4) (tt := tYes) rfl sc_law_text.nd (pi_list (pv 2))
          (blkOk_by (own := [("_law_line_here", 4)]) (N := ["_law_signs", "_law_products_here", "_law_lines", "_law_product", "_law_line_here"]) (sc := defScope s_law_text) (by decide +kernel))
          (fun _ _ _ _ _ => pg_name (i := 4) sc_law_text.nd rfl (by first | exact Or.inl rfl | exact Or.inr rfl)) (fun _ _ _ _ _ => pts_nil)
          (fun _ _ _ _ _ => (pe_op op_addT (pv 4) pe_str)))))), ?_⟩
    dsimp only [cxOf]
    have hsize : sizeLine = 16777216 := sizeLine_eq
    have hfew := hO.few
    have hls := hO.lets.few
    have hbl : bs.length = kp.length := by rw [← hbs, List.length_map]
    refine ⟨_, rfl, [115, 117, 109, 32], sg, rfl, rfl, by show 4 + _ ≤ _; omega, by show 1 ≤ sizeLine; decide, fun p0 n0 => ?_⟩
    have e0 : [115, 117, 109, 32] ++ sg = M90.jn [wSum, sg] := rfl
    rw [e0]
    have s0 := same_upd (o := .lst [tx (M90.jn [wSum, sg])]) n0
    have h0 := upd_same (H := H) (a := p0) (o := .lst [tx (M90.jn [wSum, sg])])
    generalize upd H p0 (.lst [tx (M90.jn [wSum, sg])]) = H1 at *
    have hbr : (rfs bs).length = bs.length := List.length_map _
    refine ⟨_, rfl, l, rfl, ⟨_, sq_same hS s0⟩, fun D nD => ?_⟩
    refine lc_gen (walk_list (xs := rfs bs)) (Same H1) (fun i acc => acc = ((kp.take i).map fun p => M90.jn (wPro :: p)).map tx) (sz (by rw [hbr]; omega)) (fun i acc e => by rw [e, List.length_map, List.length_map, List.length_take]; omega) rfl (same_upd nD) (fun _ _ h => same_up h nD) (fun _ h => sq_same hS (s0.trans h)) (fun i x H3 H4 acc C N hi rs hD ha y c nn => ?_) (fun H3 ys s3 hD ha => ?_)
    · obtain ⟨rfl, y⟩ := y
      rw [show (rfs bs)[i]? = (bs[i]?).map fun b => V.ref b.1 from List.getElem?_map] at y
      obtain ⟨b, hb, rfl⟩ := Option.map_eq_some_iff.mp y
      have hkb : kp[i]? = some b.2 := by rw [← hbs, List.getElem?_map, hb]; rfl
      have hpt := hP b (List.mem_of_getElem? hb)
      obtain ⟨hok, hlen⟩ := hO.pd b.2 (List.mem_of_getElem? hkb)
      refine ⟨rfl, yes_te ⟨⟨_, rfl⟩, by show 1 ≤ sizeLine; decide, fun p2 n2 => ?_⟩⟩
      have s2 := same_upd (o := .lst [tx wPro]) n2
      refine ⟨_, rfl, b.1, _, rfl, .inr (sqT_same hpt (s0.trans (rs.trans s2))), fun p3 n3 => ?_⟩
      have s3 := same_upd (o := .lst (b.2.map tx)) n3
      refine ⟨p2, p3, _, _, rfl, rfl, s3 _ _ upd_same, upd_same, by rw [List.length_map]; show 1 + _ ≤ _; omega, fun p4 n4 => ?_⟩
      have s4 := same_upd (o := .lst ([tx wPro] ++ b.2.map tx)) n4
      have hw7 : ∀ a ∈ wPro :: b.2, a.length ≤ 40 := fun a ha => by
        rcases List.mem_cons.mp ha with rfl | ha
        · decide
        · have := (hok a ha).len hO.lets; omega
      have hsl := sum_len 40 (wPro :: b.2) hw7
      refine ⟨(" " : Str), p4, (wPro :: b.2).map tS, rfl, rfl, .inl (.inl (.inl (by rw [map_tx]; exact upd_same))), ?_, ?_⟩
      · rw [List.length_map, show ((" " : Str)).length = 1 from rfl]
        rw [List.length_cons] at hsl ⊢
        omega
      rw [join_w]
      have sAll := s2.trans (s3.trans s4)
      refine c _ _ (rs.trans sAll) (sAll _ _ hD) ?_
      rw [ha, List.take_add_one, hkb, List.map_append, List.map_append]
      rfl
    · rw [hbr, hbl, List.take_length] at ha
      subst ha
      have sr : (M90.jn [wSum, sg] :: kp.map fun p => M90.jn (wPro :: p)) = sRows sg kp := by
        unfold sRows sAll
        rw [List.map_cons, List.map_map]
        rfl
      refine ⟨p0, D, _, _, rfl, rfl, s3 _ _ h0, hD, by rw [List.length_map, List.length_map]; show 1 + _ ≤ _; omega, fun p5 n5 => ?_⟩
      rw [show [tx (M90.jn [wSum, sg])] ++ (kp.map fun p => M90.jn (wPro :: p)).map tx = (sRows sg kp).map tx by rw [← sr]; rfl]
      have s5 := same_upd (o := .lst ((sRows sg kp).map tx)) n5
      have h5 := upd_same (H := H3) (a := p5) (o := .lst ((sRows sg kp).map tx))
      have s05 := s0.trans (s3.trans s5)
      generalize upd H3 p5 (.lst ((sRows sg kp).map tx)) = H6 at *
      dsimp only [gName]
      have hrl := sRows_len sg kp
      refine ⟨⟨_, rfl⟩, _, rfl, p5, rfl, ⟨_, .inl (.inl h5)⟩, fun D2 nD2 => ?_⟩
      refine lc_gen (walk_list (xs := (sRows sg kp).map tx)) (Same H6) (fun i acc => acc = (((sRows sg kp).take i).map M90.endd).map tx) (sz (by rw [List.length_map]; omega)) (fun i acc e => by rw [e, List.length_map, List.length_map, List.length_take]; omega) rfl (same_upd nD2) (fun _ _ h => same_up h nD2) (fun _ h => sq_same (.inl (.inl h5)) h) (fun i x H7 H8 acc C N hi rs hD ha y c nn => ?_) (fun H7 ys s7 hD ha => ?_)
      · obtain ⟨rfl, y⟩ := y
        rw [List.getElem?_map] at y
        obtain ⟨b, hb, rfl⟩ := Option.map_eq_some_iff.mp y
        have hb168 := hO.row b (List.mem_of_getElem? hb)
        refine ⟨rfl, yes_te ⟨_, rfl, b, [10], rfl, rfl, by rw [List.length_singleton]; omega, c _ _ rs hD ?_⟩⟩
        rw [ha, List.take_add_one, hb, List.map_append, List.map_append]
        rfl
      · rw [List.length_map, List.take_length] at ha
        subst ha
        have h1 := hO.row
        have h2 : ∀ l ∈ sL sg kp, l.length ≤ 169 := fun l hl => by
          obtain ⟨m, hm, rfl⟩ := List.mem_map.mp hl
          have := h1 m hm
          unfold M90.endd
          simp
          omega
        have h3 := sum_len 169 (sL sg kp) h2
        have h4 : (sL sg kp).length ≤ 21 := by rw [List.length_map, sRows_len]; omega
        refine ⟨("" : Str), D2, (sL sg kp).map tS, rfl, rfl, .inl (.inl (.inl (by rw [map_tx]; exact hD))), ?_, ?_⟩
        · rw [List.length_map, show (("" : Str)).length = 0 from rfl]
          omega
        · rw [join_e]
          exact q _ (s05.trans s7)
end
end Lw
namespace Lw
open PySem PySem.Spec PyProof.Rows L3
open L2 hiding del del_same del_ne
theorem PcOk.holds1 {sg y : List Nat} {c : Nat} (hl : Lets sg) (h : PcOk sg y) (hc : c ≠ 42) : M23.holds y [c] = decide (c ∈ y) := by
  rcases h with ⟨d, hd, rfl⟩ | ⟨l, _, _, h3, rfl⟩
  · have hd42 : d ≠ 42 := fun e => hl.no (e ▸ hd)
    unfold M23.holds
    rw [M23.isS_one hd42, if_neg (by decide)]
    refine decide_eq_decide.mpr ⟨fun e => ?_, fun e => ?_⟩
    · rw [List.singleton_inj.mp e]; exact List.mem_singleton.mpr rfl
    · rw [List.mem_singleton.mp e]
  · unfold M23.holds
    rw [M23.isS_star, if_pos rfl, M23.lt_star, M23.lt_one hc]
    simp [hc]
theorem PcOk.star1 {sg y : List Nat} (hl : Lets sg) (h : PcOk sg y) : ∃ d, y.getLast? = some d ∧ M23.isS y = decide (d = 42) := by
  rcases h with ⟨d, hd, rfl⟩ | ⟨l, _, _, h3, rfl⟩
  · have hd42 : d ≠ 42 := fun e => hl.no (e ▸ hd)
    exact ⟨d, rfl, by rw [M23.isS_one hd42]; simp [hd42]⟩
  · exact ⟨42, by simp, by rw [M23.isS_star]; rfl⟩
section
variable {P : Program} {w : World} {K : PySem.W.Frag} {mg : Str → Option Value} {base : Heap}
def spLHas (K : PySem.W.Frag) : Sp := fun vs H Q _ => ∃ (a : Addr) (sg t : List Nat) (p : M23.Pd), vs = [.ref a, tx t] ∧ SqT K H a (p.map tx) ∧ Lets sg ∧ PdOk sg p ∧ p.length ≤ 20 ∧ t.length ≤ 20 ∧ (∀ c ∈ t, c ∈ sg) ∧ ∀ H', Same H H' → Q (.bl (M23.runI p 0 (M23.tP t)).isSome) H'
theorem ok_law_has (T : All K mg) : FnOk P w K mg base CX0 1 T.f_law_has T.d_law_has ["_law_product", "_law_text_here"] (spLHas K) := by
  refine T.law_has.F.ok sc_law_has (fun vs H Q E h => ?_) (fun cdv A outer s H vs Q E hr h => ?_)
  · obtain ⟨a, sg, t, p, rfl, _⟩ := h
    rfl
  · obtain ⟨a, sg, t, p, rfl, hS, hl, hp, hz, htz, hts, q⟩ := h
    refine ⟨_, pss_cons (ps_set (i := 2) sc_law_has.nd rfl (by first | exact Or.inl rfl | exact Or.inr rfl) pe_int)
      (pss_cons (ps_for PassesOwn.never rfl (pi_str (pv 1)) (pg_name (i := 3) sc_law_has.nd rfl (by first | exact Or.inl rfl | exact Or.inr rfl))
        (pss_cons (ps_while PassesOwn.never (PW.pt (pw_and (pt_cmpR op_lt (pv 2) (pe_callB call_len_seq (by rfl) T.b_len PySem.boot_len (pa_cons (pv 0) pa_nil)) (nomark _)) (pw_and1 (pt_cmpR op_notIn_sign (pv 3) (pe_ix ix_tup (pv 0) (pv 2) (fun _ _ => rfl)) (by rfl)))))
        (pss_one (ps_aug (i := 2) sc_law_has.nd rfl (by first | exact Or.inl rfl | exact Or.inr rfl) pe_int ip_add)))
      (pss_cons (ps_if (pt_cmpR op_eq (pv 2) (pe_callB call_len_seq (by rfl) T.b_len PySem.boot_len (pa_cons (pv 0) pa_nil)) (nomark _)) (pss_one (ps_ret pe_bl)) pss_nil)
      (pss_one (ps_if (pt_cmpR op_ne (pe_ix ix_str (pe_ix ix_tup (pv 0) (pv 2) (fun _ _ => rfl)) (pe_un un_neg pe_int) (fun _ _ => rfl)) pe_str (nomark _)) (pss_one (ps_aug (i := 2) sc_law_has.nd rfl (by first | exact Or.inl rfl | exact Or.inr rfl) pe_int ip_add)) pss_nil)))))
      (pss_one (ps_ret pe_bl))), ?_⟩
    dsimp only [cxOf]
    have hsize : sizeLine = 16777216 := sizeLine_eq
    have hpl : (p.map tx).length = p.length := List.length_map _
    refine ⟨_, rfl, tS t, rfl, ?_⟩
    refine for_it walk_tx (fun i σ H' => ∃ (k : Nat) (s3 : Option V), σ = [some (.ref a), some (tx t), some (.int (k : Int)), s3] ∧ Same H H' ∧ k ≤ p.length ∧ M23.runI p 0 (M23.tP (t.take i)) = some k) ⟨0, _, rfl, Same.refl _, Nat.zero_le _, rfl⟩ (fun _ _ _ _ _ => trivial) (fun i x σ H2 H3 hi pp y => ?_) (fun σ H2 pp => ?_)
    · obtain ⟨k, s3, rfl, sH, hk, hrun⟩ := pp
      obtain ⟨rfl, c, hc, rfl⟩ := y
      have hcs : c ∈ sg := hts c (List.mem_of_getElem? hc)
      have hc42 : c ≠ 42 := fun e => hl.no (e ▸ hcs)
      have hrn : M23.runI p 0 (M23.tP (t.take (i + 1))) = M23.pb p k [c] := by
        rw [List.take_add_one, hc, M23.tP_append, M23.runI_append, hrun]
        show (M23.pb p k [c]).bind (fun k => some k) = _
        cases M23.pb p k [c] <;> rfl
      refine while_fin (fun m σ H' => ∃ j : Nat, m = p.length - j ∧ σ = [some (.ref a), some (tx t), some (.int (j : Int)), some (tx [c])] ∧ Same H H' ∧ k ≤ j ∧ j ≤ p.length ∧ ∀ j' y, k ≤ j' → j' < j → p[j']? = some y → c ∉ y)
        (fun σ H' => ∃ j : Nat, σ = [some (.ref a), some (tx t), some (.int (j : Int)), some (tx [c])] ∧ Same H H' ∧ k ≤ j ∧ j ≤ p.length ∧ (∀ j' y, k ≤ j' → j' < j → p[j']? = some y → c ∉ y) ∧ (j = p.length ∨ ∃ y, p[j]? = some y ∧ c ∈ y)) ⟨_, k, rfl, rfl, sH, Nat.le_refl _, hk, fun j' y h1 h2 => by omega⟩ (fun m σ H' ww Kc k1 k0 => ?_) (fun σ H' ff => ?_)
      · obtain ⟨j, rfl, rfl, sH', hkj, hjp, hno⟩ := ww
        have hS' := sqT_same hS sH'
        refine ⟨_, rfl, _, rfl, a, _, rfl, .inr hS', ?_⟩
        refine ⟨_, _, rfl, rfl, _, rfl, ?_⟩
        by_cases hlt : j < p.length
        · refine ite_t (decide_eq_true (by rw [hpl]; omega)) ?_
          obtain ⟨y, hy⟩ : ∃ y, p[j]? = some y := ⟨_, List.getElem?_eq_getElem hlt⟩
          refine ⟨_, rfl, _, rfl, _, rfl, a, _, _, _, rfl, rfl, hS', atI_nat (j := j) (by rw [List.getElem?_map, hy]; rfl), c, tS y, rfl, rfl, _, rfl, ?_⟩
          by_cases hcy : c ∈ y
          · rw [show (!decide (c ∈ (tS y).cps.toList)) = false by rw [decide_eq_true (show c ∈ (tS y).cps.toList from hcy)]; rfl]
            exact k0 _ ⟨j, rfl, sH', hkj, hjp, hno, .inr ⟨y, hy, hcy⟩⟩
          · rw [show (!decide (c ∈ (tS y).cps.toList)) = true by rw [decide_eq_false (show ¬ c ∈ (tS y).cps.toList from hcy)]; rfl]
            refine k1 _ ?_
            refine ⟨_, rfl, _, _, rfl, rfl, ?_⟩
            refine ⟨_, (by omega : p.length - (j + 1) < p.length - j), j + 1, rfl, ?_, sH', by omega, by omega, fun j' z h1 h2 h3 => ?_⟩
            · simp [List.set]
            · by_cases e : j' = j
              · subst e
                rw [hy] at h3
                rw [← Option.some.inj h3]
                exact hcy
              · exact hno j' z h1 (by omega) h3
        · refine ite_f (decide_eq_false (by rw [hpl]; omega)) ?_
          exact k0 _ ⟨j, rfl, sH', hkj, hjp, hno, .inl (by omega)⟩
      · obtain ⟨j, rfl, sH', hkj, hjp, hno, hend⟩ := ff
        have hS' := sqT_same hS sH'
        have hno' : ∀ j' y, k ≤ j' → j' < j → p[j']? = some y → M23.holds y [c] = false := fun j' y h1 h2 h3 => by
          rw [(hp y (List.mem_of_getElem? h3)).holds1 hl hc42]
          exact decide_eq_false (hno j' y h1 h2 h3)
        refine ⟨_, rfl, _, rfl, a, _, rfl, .inr hS', rfl, _, rfl, ?_⟩
        rcases hend with e | ⟨y, hy, hcy⟩
        · refine ite_t (decide_eq_true (by rw [hpl, e])) ?_
          have hpb : M23.pb p k [c] = none := M23.pb_none _ k rfl fun j' y h1 h3 => hno' j' y h1 (by have := (List.getElem?_eq_some_iff.mp h3).1; omega) h3
          have hnone : M23.runI p 0 (M23.tP t) = none := by
            rw [← List.take_append_drop (i + 1) t, M23.tP_append, M23.runI_append, hrn, hpb]
            rfl
          have := q _ sH'
          rw [hnone] at this
          exact this
        · have hjl := (List.getElem?_eq_some_iff.mp hy).1
          refine ite_f (decide_eq_false fun e => by rw [hpl] at e; injection e with e; omega) ?_
          have hpy := hp y (List.mem_of_getElem? hy)
          have hyl := hpy.len hl
          obtain ⟨d, hd, hds⟩ := hpy.star1 hl
          have hhy : M23.holds y [c] = true := by rw [hpy.holds1 hl hc42]; exact decide_eq_true hcy
          have hpb := M23.pb_found hy hhy (j - k) k rfl hkj hno'
          obtain ⟨y0, ey⟩ : ∃ y0, y = y0 ++ [d] := by
            rw [List.getLast?_eq_some_iff] at hd
            exact hd
          have hat : atI (tS y).cps.toList (-1) = some d := by
            show atI y (-1) = some d
            rw [ey]
            exact atI_last y0 d
          refine ⟨_, rfl, _, rfl, a, _, _, _, rfl, rfl, hS', atI_nat (j := j) (by rw [List.getElem?_map, hy]; rfl), 1, rfl, tS y, -1, d, rfl, rfl, by rw [show (tS y).length = y.length from SX.S_len y]; omega, hat, rfl, _, rfl, ?_⟩
          by_cases hd42 : d = 42
          · have hs : M23.isS y = true := by rw [hds]; exact decide_eq_true hd42
            refine ite_f (by rw [decide_eq_true (show V.str { cps := #[d] } = V.str "*" by rw [hd42]; rfl)]; rfl) ?_
            refine ⟨j, some (tx [c]), rfl, sH', hjp, ?_⟩
            rw [hrn, hpb, if_pos hs]
          · have hs : M23.isS y = false := by rw [hds]; exact decide_eq_false hd42
            have hne : (V.str { cps := #[d] } = V.str "*") = False := by
              refine eq_false fun e => hd42 ?_
              have e2 : (⟨#[d]⟩ : Str) = ("*" : Str) := V.str.inj e
              have e3 : #[d] = #[42] := congrArg Str.cps e2
              simpa using e3
            refine ite_t (by simp only [hne]; rfl) ?_
            refine ⟨_, rfl, _, _, rfl, rfl, ?_⟩
            refine ⟨j + 1, some (tx [c]), by simp [List.set], sH', by omega, ?_⟩
            rw [hrn, hpb, if_neg (by rw [hs]; decide)]
    · obtain ⟨k, s3, rfl, sH, hk, hrun⟩ := pp
      rw [List.take_length] at hrun
      have := q _ sH
      rw [hrun] at this
      exact this
end
end Lw
namespace Lw
open PySem PySem.Spec PyProof.Rows L3
open L2 hiding del del_same del_ne
theorem off_step {a D : Addr} {H X Y : Hp} (x : Off a H (del X D)) (y : Off a X Y) : Off a H (del Y D) := fun b o e n => by
  have h1 := x b o e n
  have hb : b ≠ D := fun z => by rw [z, del_at] at h1; cases h1
  rw [del_ne hb] at h1 ⊢
  exact y b o h1 n
theorem off_in {a D : Addr} {H X : Hp} (x : Off a H (del X D)) : Off a H X := fun b o e n => del_same _ _ _ _ (x b o e n)
theorem pot_in {a D : Addr} {H : Hp} (h : Pot (del H D) a) : Pot H a := h.same (del_same _ _)
theorem pot_out {a D : Addr} {H : Hp} (h : Pot H a) (n : a ≠ D) : Pot (del H D) a := by
  obtain ⟨x, y, e, r⟩ := h
  exact ⟨x, y, by rw [del_ne n]; exact e, r⟩
theorem join_1 (t : List Nat) : Txt.join ("" : Str) (t.map fun c => tS [c]) = tS t := by
  have e := join_e (t.map fun c => [c])
  rw [List.map_map, flat_one] at e
  exact e
section
variable {P : Program} {w : World} {K : PySem.W.Frag} {mg : Str → Option Value} {base : Heap}
def spAsked (K : PySem.W.Frag) (C : Addr) : Sp := fun vs H Q _ => ∃ (a m l : Addr) (sg : List Nat) (kp : List M23.Pd) (bs : List AP), vs = [.ref a, .ref m, tx sg, .ref l] ∧ Pot H a ∧ SumO C K (del H a) m sg kp ∧ Few kp ∧ Lets sg ∧ SqL K (del H a) l (rfs bs) ∧ Prods K (del H a) bs ∧
  bs.length ≤ 20 ∧ (∀ b ∈ bs, PdOk sg b.2 ∧ b.2.length ≤ 20) ∧ kp = M23.kept (bs.map Prod.snd) ∧ ∀ H', Pot H' a → Off a H H' → Q (.bl true) H'
theorem allOk_of {sg : List Nat} {ps : List M23.Pd} (hl : Lets sg) (h : ∀ p ∈ ps, PdOk sg p) : M23.AllOk ps := fun p hp x hx => (h p hp x hx).ok hl
theorem asked_eq {sg t : List Nat} {ps : List M23.Pd} (hl : Lets sg) (h : ∀ p ∈ ps, PdOk sg p) (ht : ∀ c ∈ t, c ∈ sg) :
    ((t.all fun c => decide (c ∈ sg)) && (M23.kept ps).any fun p => (M23.runI p 0 (M23.tP t)).isSome) = ps.any fun p => (M23.runI p 0 (M23.tP t)).isSome := by
  have h1 : (t.all fun c => decide (c ∈ sg)) = true := List.all_eq_true.mpr fun c hc => decide_eq_true (ht c hc)
  rw [h1, Bool.true_and, Bool.eq_iff_iff, List.any_eq_true, List.any_eq_true]
  have h2 := M23.inS_kept (allOk_of hl h) (t := t)
  unfold M23.InS at h2
  constructor
  · rintro ⟨p, hp, hr⟩
    obtain ⟨q, hq, hi⟩ := h2.mp ⟨p, hp, isSomeIn.mp hr⟩
    exact ⟨q, hq, isSomeIn.mpr hi⟩
  · rintro ⟨p, hp, hr⟩
    obtain ⟨q, hq, hi⟩ := h2.mpr ⟨p, hp, isSomeIn.mp hr⟩
    exact ⟨q, hq, isSomeIn.mpr hi⟩
theorem ok_law_asked_right (T : All K mg) : FnOkG P w K mg base CX0 10 T.f_law_asked_right T.d_law_asked_right ["_law_pot_here", "_law_back", "_law_signs", "_law_products_here"] (spAsked K T.C_Sum) := by
  refine okG T.law_asked_right.F sc_law_asked_right (fun vs H Q E h => ?_) (fun cdv A outer s H vs Q E hr hG h => ?_)
  · obtain ⟨a, m, l, sg, kp, bs, rfl, _⟩ := h
    rfl
  · obtain ⟨a, m, l, sg, kp, bs, rfl, hp, hM, hf, hL, hS, hP, hbz, hbo, hkp, q⟩ := h
    refine ⟨_, pss_cons (ps_for PassesOwn.never rfl (pi_range1 rfl T.b_range (pa_cons pe_int pa_nil)) (pg_name (i := 4) sc_law_asked_right.nd rfl (by first | exact Or.inl rfl | exact Or.inr rfl))
        (pss_cons (ps_set (i := 5) sc_law_asked_right.nd rfl (by first | exact Or.inl rfl | exact Or.inr rfl) (pe_join pe_str (pe_lc (own := [("_law_more", 6)]) (g := gName 6) (tt := tYes) rfl sc_law_asked_right.nd (pi_range1 rfl T.b_range (pa_cons (pe_call (ok_law_draw T) (hr.mono (by decide)) (by rfl) T.law_draw.g T.law_draw.F.kp T.law_draw.b .nil pass0 (pa_cons (pv 0) (pa_cons pe_int pa_nil))) pa_nil))
          (blkOk_by (own := [("_law_more", 6)]) (N := ["_law_pot_here", "_law_back", "_law_signs", "_law_products_here", "_law_turn", "_law_text_here", "_law_more", "_law_product"]) (sc := defScope s_law_asked_right) (by decide +kernel))
          (fun _ _ _ _ _ => pg_name (i := 6) sc_law_asked_right.nd rfl (by first | exact Or.inl rfl | exact Or.inr rfl)) (fun _ _ _ _ _ => pts_nil)
          (fun _ _ _ _ _ => (pe_call (ok_law_pick T) (hr.mono (by decide)) (by rfl) T.law_pick.g T.law_pick.F.kp T.law_pick.b .nil pass0 (pa_cons (pv 0) (pa_cons (pv 2) pa_nil)))))))
      (pss_one (ps_if (pt_cmpR op_ne (pe_cmpR (op_inOwn (FnOkG.of (ok_Sum_contains T)) (hr.mono (by decide)) hG T.Sum_contains.b T.Sum_contains.m) (pv 5) (pv 1) (by rfl)) (pe_callB (cr_any rfl) (by rfl) T.b_any PyProof.Rows.boot_any (pa_cons (pe_lc (own := [("_law_product", 7)]) (g := gName 7) (tt := tYes) rfl sc_law_asked_right.nd (pi_list (pv 3))
          (blkOk_by (own := [("_law_product", 7)]) (N := ["_law_pot_here", "_law_back", "_law_signs", "_law_products_here", "_law_turn", "_law_text_here", "_law_more", "_law_product"]) (sc := defScope s_law_asked_right) (by decide +kernel))
          (fun _ _ _ _ _ => pg_name (i := 7) sc_law_asked_right.nd rfl (by first | exact Or.inl rfl | exact Or.inr rfl)) (fun _ _ _ _ _ => pts_nil)
          (fun _ _ _ _ _ => (pe_call (ok_law_has T) (hr.mono (by decide)) (by rfl) T.law_has.g T.law_has.F.kp T.law_has.b .nil pass0 (pa_cons (pv 7) (pa_cons (pv 5) pa_nil))))) pa_nil)) (nomark _)) (pss_one (ps_ret pe_bl)) pss_nil))))
      (pss_one (ps_ret (pe_and (pe_cmpR op_eq (pe_prop (pv 1) T.cl_Sum T.Sum_letters.p (ok_Sum_letters T) (hr.mono (by decide)) T.Sum_letters.b .nil pass0 rfl) (pv 2) (by rfl))
        (pe_one (pe_cmpR op_eq (pe_callB (cr_lenOwn (FnOkG.of (ok_Sum_len T)) (hr.mono (by decide)) hG T.Sum_len.b T.Sum_len.m) (by rfl) T.b_len PySem.boot_len (pa_cons (pv 1) pa_nil)) (pe_callB call_len_seq (by rfl) T.b_len PySem.boot_len (pa_cons (pe_meth0 (pv 1) T.cl_Sum T.Sum_products.m (ok_Sum_products T) (hr.mono (by decide)) T.Sum_products.b .nil pass0) pa_nil)) (by rfl)))))), ?_⟩
    have d0 : Same (del H a) H := del_same _ _
    obtain ⟨dx, t0, hat, hdp⟩ := id hM.at_
    have hbr : (rfs bs).length = bs.length := List.length_map _
    dsimp only [cxOf]
    refine ⟨_, rfl, by decide, by decide, for_it walk_range (fun i σ H' => ∃ x4 x5 x6 x7, σ = [some (.ref a), some (.ref m), some (tx sg), some (.ref l), x4, x5, x6, x7] ∧ Pot H' a ∧ Off a H H') ⟨none, none, none, none, rfl, hp, Off.refl _ _⟩ (fun _ _ _ _ _ => trivial) (fun i x σ H3 H4 hi p y => ?_) (fun σ H3 p => ?_)⟩
    · obtain ⟨x4, x5, x6, x7, rfl, hp3, ho3⟩ := p
      obtain ⟨rfl, rfl⟩ := y
      refine ⟨⟨_, rfl⟩, _, rfl, a, 8, rfl, hp3, by decide, by decide, fun H5 d hd hp5 ho5 => ⟨_, rfl, by omega, by omega, fun D nD => ?_⟩⟩
      rw [show ((d : Int)).toNat = d by omega]
      have naD : a ≠ D := hp5.ne nD
      refine lc_dp walk_range (fun i acc H' => Pot H' a ∧ Off a H5 H' ∧ ∃ t : List Nat, acc = t.map (fun c => tx [c]) ∧ t.length = i ∧ ∀ c ∈ t, c ∈ sg) (sz (by omega)) (fun i acc H' p => by obtain ⟨_, _, t, e, h, _⟩ := p; rw [e, List.length_map]; omega) nD ⟨hp5, Off.refl _ _, [], rfl, rfl, fun c h => nomatch h⟩ (fun _ _ _ _ _ => trivial) (fun j x2 Hk H'' acc2 C2 N2 hj p2 hD2 y2 c2 nn2 => ?_) (fun H6 ys hD6 p2 => ?_)
      · obtain ⟨rfl, rfl⟩ := y2
        obtain ⟨hpk, hok, t, et, htl, hts⟩ := p2
        refine ⟨rfl, yes_te ⟨_, rfl, _, rfl, a, tx sg, rfl, pot_in hpk, .inl ⟨sg, rfl, (fun e => by have := hL.ne; rw [e] at this; exact absurd this (by decide)), by have := hL.few; omega, fun H7 c hc hp7 ho7 => ?_⟩⟩⟩
        refine c2 _ _ (ho7 _ _ hD2 naD.symm) ⟨pot_out hp7 naD, off_step hok ho7, t ++ [c], by rw [et, List.map_append]; rfl, by rw [List.length_append, htl]; rfl, fun z hz => ?_⟩
        rcases List.mem_append.mp hz with hz | hz
        · exact hts z hz
        · rw [List.mem_singleton.mp hz]; exact hc
      · obtain ⟨hpk, hok, t, rfl, htl, hts⟩ := p2
        have hp6 := pot_in hpk
        have ho6 := ho3.trans (ho5.trans (off_in hok))
        have e1 : (t.map fun c => tS [c]).map V.str = t.map fun c => tx [c] := by rw [List.map_map]; rfl
        have hsum : ((t.map fun c => tS [c]).map (·.length)).sum ≤ t.length * 1 := by
          have h := sum_len 1 (t.map fun c => [c]) (fun w hw => by obtain ⟨c, _, rfl⟩ := List.mem_map.mp hw; exact Nat.le_refl _)
          rw [List.length_map, List.map_map (l := t) (f := fun c => [c])] at h
          exact h
        refine ⟨("" : Str), D, t.map fun c => tS [c], rfl, rfl, .inl (.inl (.inl (by rw [e1]; exact hD6))), ?_, ?_⟩
        · rw [List.length_map, show (("" : Str)).length = 0 from rfl]
          omega
        rw [join_1]
        have d6 : Same (del H a) H6 := (off_del ho6).trans (del_same _ _)
        refine ⟨_, rfl, _, rfl, m, dx, _, rfl, d6 _ _ hat, m, tx t, sg, kp, rfl, hM.same d6, hf, .inl ⟨t, rfl, by omega, fun H7 s7 => ⟨_, rfl, ?_⟩⟩⟩
        have d7 := d6.trans s7
        refine ⟨_, rfl, l, rfl, ⟨_, sq_same hS d7⟩, fun D2 nD2 => ?_⟩
        refine lc_gen (walk_list (xs := rfs bs)) (Same H7) (fun j acc => acc = (bs.take j).map fun b => V.bl (M23.runI b.2 0 (M23.tP t)).isSome) (sz (by rw [hbr]; omega)) (fun i acc e => by rw [e, List.length_map, List.length_take]; omega) rfl (same_upd nD2) (fun _ _ h => same_up h nD2) (fun _ h => sq_same hS (d7.trans h)) (fun j x H8 H9 acc C N hj r hD ha y c n => ?_) (fun H8 xs r hD ha => ?_)
        · obtain ⟨rfl, yy⟩ := y
          rw [show (rfs bs)[j]? = (bs[j]?).map fun b => V.ref b.1 from List.getElem?_map] at yy
          obtain ⟨b, hb, rfl⟩ := Option.map_eq_some_iff.mp yy
          have hbm := List.mem_of_getElem? hb
          obtain ⟨b1, b2⟩ := hbo b hbm
          refine ⟨rfl, yes_te ⟨_, rfl, _, rfl, b.1, sg, t, b.2, rfl, sqT_same (hP b hbm) (d7.trans r), hL, b1, b2, by omega, hts, fun H10 s10 => c _ _ (r.trans s10) (s10 _ _ hD) ?_⟩⟩
          rw [ha, List.take_add_one, hb, List.map_append]
          rfl
        · subst ha
          rw [hbr, List.take_length] at hD
          refine ⟨D2, bs.map fun b => (M23.runI b.2 0 (M23.tP t)).isSome, rfl, .inl (.inl (by rw [hD, List.map_map]; rfl)), ?_⟩
          have e2 : (bs.map fun b => (M23.runI b.2 0 (M23.tP t)).isSome).any id = (bs.map Prod.snd).any fun p => (M23.runI p 0 (M23.tP t)).isSome := by
            rw [List.any_map, List.any_map]
            rfl
          rw [e2, hkp, asked_eq hL (fun p hp => by obtain ⟨b, hb, rfl⟩ := List.mem_map.mp hp; exact (hbo b hb).1) hts]
          refine ⟨rfl, _, rfl, ite_f (by simp) ?_⟩
          exact ⟨_, _, _, _, rfl, (hp6.same s7).same r, ho6.trans (Off.of (s7.trans r))⟩
    · obtain ⟨x4, x5, x6, x7, rfl, hp3, ho3⟩ := p
      have d3 : Same (del H a) H3 := (off_del ho3).trans (del_same _ _)
      have hM3 := hM.same d3
      refine ⟨_, rfl, m, dx, _, rfl, d3 _ _ hat, m, sg, kp, rfl, hM3, _, rfl, rfl, _, rfl, ite_t (by simp) ?_⟩
      refine ⟨_, rfl, m, dx, _, rfl, d3 _ _ hat, m, sg, kp, rfl, hM3, kp.length, rfl, by have := hf.1; exact sz (by omega), ?_⟩
      refine ⟨_, rfl, m, dx, _, rfl, d3 _ _ hat, rfl, m, sg, kp, rfl, hM3, fun p5 cs n5 hcs hPc => ?_⟩
      refine ⟨p5, _, rfl, .inl (.inl (.inl upd_same)), rfl, ?_⟩
      have el : (rfs cs).length = kp.length := by rw [← hcs]; unfold rfs; rw [List.length_map, List.length_map]
      rw [el]
      have n5a := hp3.ne n5
      have := q (upd H3 p5 (.lst (rfs cs))) (hp3.up n5a) (ho3.trans (Off.of (same_upd n5)))
      simpa using this
end
end Lw
namespace Lw
open PySem PySem.Spec PyProof.Rows L3
open L2 hiding del del_same del_ne
theorem sf_of {K : PySem.W.Frag} {C : Addr} (h : ∃ cd, PySem.W.clsIn K C = some cd ∧ cd.mro = [.ref C, .type "object"]) : PySem.W.selfFirst K C = true := by
  obtain ⟨cd, h1, h2⟩ := h
  unfold PySem.W.selfFirst
  rw [h1]
  show (cd.mro.head? == _) = true
  rw [h2]
  exact beq_self_eq_true _
def lamQ : Str := ("_law_right" ++ ".<locals>." : Str) ++ "<lambda>"
abbrev TT (Pt : Addr) : List (Addr × Str) := [(Pt, lamQ)]
theorem sqL_ext {K : PySem.W.Frag} {H H' : Hp} {a : Addr} {xs : List V} (h : SqL K H a xs) (e : LamX.ExtN H H') : SqL K H' a xs := by
  rcases h with (h | ⟨o, h⟩) | h
  · exact .inl (.inl (e _ _ h (fun ps z => by cases z)))
  · exact .inl (.inr ⟨o, e _ _ h (fun ps z => by cases z)⟩)
  · exact .inr h
theorem sqT_ext {K : PySem.W.Frag} {H H' : Hp} {a : Addr} {xs : List V} (h : SqT K H a xs) (e : LamX.ExtN H H') : SqT K H' a xs := by
  rcases h with (h | ⟨o, h⟩) | h
  · exact .inl (.inl (e _ _ h (fun ps z => by cases z)))
  · exact .inl (.inr ⟨o, e _ _ h (fun ps z => by cases z)⟩)
  · exact .inr h
mutual
theorem dp_ext {K : PySem.W.Frag} {H H' : Hp} (e : LamX.ExtN H H') : ∀ {v : V} {d : PyData}, Dp K H v d → Dp K H' v d
  | _, _, .non => .non
  | _, _, .bl b => .bl b
  | _, _, .int i => .int i
  | _, _, .str x => .str x
  | _, _, .lst h a => .lst (sqL_ext h e) (dpAll_ext e a)
  | _, _, .tup h a => .tup (sqT_ext h e) (dpAll_ext e a)
theorem dpAll_ext {K : PySem.W.Frag} {H H' : Hp} (e : LamX.ExtN H H') : ∀ {vs : List V} {ds : List PyData}, DpAll K H vs ds → DpAll K H' vs ds
  | _, _, .nil => .nil
  | _, _, .cons a b => .cons (dp_ext e a) (dpAll_ext e b)
end
theorem SumO.ext {C : Addr} {K : PySem.W.Frag} {H H' : Hp} {a : Addr} {sg : List Nat} {kp : List M23.Pd} (h : SumO C K H a sg kp) (e : LamX.ExtN H H') : SumO C K H' a sg kp := by
  obtain ⟨⟨dx, t, h1, h2⟩⟩ := h
  exact ⟨⟨dx, t, e _ _ h1 (fun ps z => by cases z), dp_ext e h2⟩⟩
/-- all but a and the tables stays -/
def OffN (a : Addr) (H H' : Hp) : Prop := ∀ b o, H b = some o → (∀ ps, o ≠ .tbl ps) → b ≠ a → H' b = some o
theorem OffN.trans {a : Addr} {H H1 H2 : Hp} (x : OffN a H H1) (y : OffN a H1 H2) : OffN a H H2 := fun b o e t n => y b o (x b o e t n) t n
theorem OffN.ext {a : Addr} {H H' : Hp} (x : LamX.ExtN H H') : OffN a H H' := fun b o e t _ => x b o e t
theorem OffN.off {a : Addr} {H H' : Hp} (x : Off a H H') : OffN a H H' := fun b o e _ n => x b o e n
theorem Pot.ext {a : Addr} {H H' : Hp} (h : Pot H a) (x : LamX.ExtN H H') : Pot H' a := by
  obtain ⟨u, v, e, r⟩ := h
  exact ⟨u, v, x _ _ e (fun ps z => by cases z), r⟩
theorem tabs_off {a : Addr} {Pt : Addr} {H H' : Hp} (t : LamX.Tabs (TT Pt) H) (hp : Pot H a) (o : Off a H H') : LamX.Tabs (TT Pt) H' := by
  obtain ⟨u, v, ea, _⟩ := hp
  intro p hpm
  obtain ⟨ps, h1, h2, h3⟩ := t p hpm
  refine ⟨ps, o _ _ h1 fun z => ?_, h2, fun pos cv hc => ?_⟩
  · rw [z, ea] at h1
    cases h1
  · obtain ⟨c, e1, e2⟩ := h3 pos cv hc
    refine ⟨c, e1, o _ _ e2 fun z => ?_⟩
    rw [z, ea] at e2
    cases e2
theorem tabs_lst {L Pt : Addr} {xs : List V} {H H' : Hp} (t : LamX.Tabs (TT Pt) H) (ea : H L = some (.lst xs)) (o : Off L H H') : LamX.Tabs (TT Pt) H' := by
  intro p hpm
  obtain ⟨ps, h1, h2, h3⟩ := t p hpm
  refine ⟨ps, o _ _ h1 fun z => ?_, h2, fun pos cv hc => ?_⟩
  · rw [z, ea] at h1
    cases h1
  · obtain ⟨c, e1, e2⟩ := h3 pos cv hc
    refine ⟨c, e1, o _ _ e2 fun z => ?_⟩
    rw [z, ea] at e2
    cases e2
/-- all but tables stays, and the tables are good -/
structure Fr (Pt : Addr) (H H' : Hp) : Prop where
  ext : LamX.ExtN H H'
  tabs : LamX.Tabs (TT Pt) H'
theorem Fr.same {Pt : Addr} {H H1 H2 : Hp} (x : Fr Pt H H1) (s : Same H1 H2) : Fr Pt H H2 := ⟨x.ext.trans (.of s), x.tabs.ext s⟩
theorem Fr.put {Pt L : Addr} {xs : List V} {o : HO} {H H' : Hp} (x : Fr Pt H H') (hL : H' L = some (.lst xs)) (n : H L = none) : Fr Pt H (upd H' L o) :=
  ⟨fun b u e t => by rw [upd_ne (ne_of_none e n)]; exact x.ext b u e t, tabs_lst x.tabs hL (Off.at (Off.refl _ _))⟩
theorem sq_offN {K : PySem.W.Frag} {a p : Addr} {xs : List V} {H H3 H' : Hp} (h : SqL K H a xs) (n : H p = none) (s : Same H H3) (o : OffN p H3 H') : SqL K H' a xs := by
  rcases h with (h | ⟨o', h⟩) | h
  · exact .inl (.inl (o _ _ (s _ _ h) (fun ps z => by cases z) (ne_of_none h n)))
  · exact .inl (.inr ⟨o', o _ _ (s _ _ h) (fun ps z => by cases z) (ne_of_none h n)⟩)
  · exact .inr h
section
variable {w : World} {K : PySem.W.Frag} {mg : Str → Option Value} {base : Heap}
/-- the call raises for its first row -/
def TlRow (Ce : Addr) (tl : XK → Hp → VK → Prop) (H : Hp) : Prop := ∀ H1 (E : XK) Qv, Same H H1 → (∀ H2 d, Same H1 H2 → H2 d = some (.xd [("row", .int 1)]) → E (.ref Ce) (some d) H2) → tl E H1 Qv
def TLine (Ce : Addr) : (XK → Hp → VK → Prop) → Hp → VK → Prop := fun tl H Q => TlRow Ce tl H ∧ ∀ H' p, Same H H' → H' p = some (.lst [.int 1, .bl true]) → Q (.ref p) H'
theorem line_gives {X : Cx} {K : PySem.W.Frag} {mg : Str → Option Value} (T : All K mg) (hK : X.K = K) (hm : X.mg = mg) (hG : X.A.guards = some []) {q : Str} (cdv : Value) : GivesS 9 X ["_law_call", "_law_told", "e"] "_law_line" (defScope s_law_line) T.f_law_line cdv (defBody s_law_line) "_law_call" q (TLine T.C_InvalidRow) := by
  subst hK hm
  intro f c' s H Q tl hr act hc h
  obtain ⟨hT, q⟩ := h
  refine ⟨_, (pss_cons (ps_set (i := 1) sc_law_line.nd rfl (Or.inl rfl) (pe_lst (pa_cons pe_int (pa_cons pe_bl pa_nil))))
      (pss_cons (ps_try_as (i := 2) (Wout := fun _ _ _ _ => False) rfl rfl sc_law_line.nd rfl rfl ⟨rfl, by decide, Or.inl T.g_InvalidRow⟩ takes0
          (fun W pn xe tk _ => pss_one (ps_expr (act W pn xe _ _ tk)))
          (fun a oe cls d pn hz hf => pss_one (ps_set (i := 1) sc_law_line.nd rfl (Or.inl rfl) (pe_lst (pa_cons (pe_xf T.xf_InvalidRow T.nf_InvalidRow_row hz hf (pv 2)) (pa_cons (pe_and (pe_callB (call_isD T.xc_InvalidRow hz hf) (by rfl) T.b_isinstance boot_isinstance (pa_cons (pv 2) (pa_cons (pe_glob (v := .ref T.C_PartsError) rfl T.g_PartsError rfl) pa_nil))) (pe_one (pe_callB (call_isD T.xc_InvalidRow hz hf) (by rfl) T.b_isinstance boot_isinstance (pa_cons (pv 2) (pa_cons (pe_bltn (v := .ty "ValueError") (by rfl) T.b_ValueError (by decide +kernel) rfl) pa_nil))))) pa_nil))))))
      (pss_one (ps_ret (pv 1))))), ?_⟩
  refine ⟨by show 2 ≤ sizeLine; decide, fun p0 n0 => ?_⟩
  have s0 := same_upd (o := .lst [.int 0, .bl false]) n0
  generalize upd H p0 (.lst [.int 0, .bl false]) = H0 at *
  refine ⟨rfl, s0 _ _ hc, ?_⟩
  refine hT H0 _ _ s0 fun H2 d s2 hd => ?_
  refine ⟨true, T.te_InvalidRow, (fun _ aa ha => ?_), fun z => Bool.noConfusion z⟩
  refine ⟨_, rfl, rfl, rfl, d, _, _, rfl, hd, rfl, ?_⟩
  refine ⟨_, rfl, _, _, true, d, _, rfl, rfl, rfl, hd, (fun u ru => ru), T.is_InvalidRow_PartsError, _, rfl, ?_⟩
  refine ⟨_, rfl, _, _, true, d, _, rfl, rfl, rfl, hd, (fun u ru => ru), T.is_InvalidRow_ValueError, ?_⟩
  exact ⟨by show 2 ≤ sizeLine; decide, fun p1 n1 => ⟨_, rfl, q _ p1 (s0.trans (s2.trans (same_upd n1))) upd_same⟩⟩
end
theorem kept_sok {sg : List Nat} {ps : List M23.Pd} (hl : Lets sg) (hz : ps.length ≤ 20) (h : ∀ p ∈ ps, PdOk sg p ∧ p.length ≤ 12) : SOk sg (M23.kept ps) ∧ ∀ p ∈ M23.kept ps, p.length ≤ 12 := by
  have hk : ∀ p ∈ M23.kept ps, PdOk sg p ∧ p.length ≤ 12 := fun p hp => by
    obtain ⟨q, hq, e⟩ := M23.kept_mem hp
    obtain ⟨o1, o2⟩ := h q hq
    rw [e]
    exact ⟨fun y hy => o1 y (M23.redOf_mem hy), Nat.le_trans (M23.redOf_len q) o2⟩
  exact ⟨⟨hl, Nat.le_trans (M23.kept_len ps) hz, fun p hp => ⟨(hk p hp).1, Nat.le_trans (hk p hp).2 (by decide)⟩⟩, fun p hp => (hk p hp).2⟩
section
variable {P : Program} {w : World} {K : PySem.W.Frag} {mg : Str → Option Value} {base : Heap}
theorem bun1 {H : Hp} {l : Addr} (bs : List AP) (hS : H l = some (.lst (rfs bs))) (hP : Prods K H bs) : Bun K H (.ref l) (bs.map Prod.snd) := ⟨bs, sq_list (.inl (.inl hS)), rfl, hP⟩
theorem cutV_n1 (xs : List V) : cutV xs none (some 1) = xs.take 1 := cutV_n xs 1
theorem cutV_l1 (xs : List V) : cutV xs (some 1) none = xs.drop 1 := cutV_lo xs 1
def spThing (K : PySem.W.Frag) (C : Addr) : Sp := fun vs H Q _ => ∃ (a l : Addr) (sg : List Nat) (bs : List AP), vs = [.ref a, tx sg, .ref l] ∧ Pot H a ∧ Lets sg ∧ del H a l = some (.lst (rfs bs)) ∧ Prods K (del H a) bs ∧ bs.length ≤ 6 ∧ (∀ b ∈ bs, PdOk sg b.2 ∧ b.2.length ≤ 12) ∧
  ∀ H' x, Pot H' a → Off a H H' → SumO C K H' x sg (M23.kept (bs.map Prod.snd)) → Q (.ref x) H'
theorem ok_law_thing (T : All K mg) : FnOk P w K mg base CX0 13 T.f_law_thing T.d_law_thing ["_law_pot_here", "_law_signs", "_law_products_here"] (spThing K T.C_Sum) := by
  refine T.law_thing.F.ok sc_law_thing (fun vs H Q E h => ?_) (fun cdv A outer s H vs Q E hr h => ?_)
  · obtain ⟨a, l, sg, bs, rfl, _⟩ := h
    rfl
  · obtain ⟨a, l, sg, bs, rfl, hp, hl, hS, hP, hz, hbo, q⟩ := h
    refine ⟨_, pss_cons (ps_set (i := 3) sc_law_thing.nd rfl (by first | exact Or.inl rfl | exact Or.inr rfl) (pe_call (ok_law_draw T) (hr.mono (by decide)) (by rfl) T.law_draw.g T.law_draw.F.kp T.law_draw.b .nil pass0 (pa_cons (pv 0) (pa_cons pe_int pa_nil))))
      (pss_cons (ps_if (pt_cmpR op_eq (pv 3) pe_int (nomark _)) (pss_one (ps_ret (pe_op (op_own (ok_Sum_or T) (hr.mono (by decide)) T.Sum_or.b T.Sum_or.m (sf_of T.mo_Sum)) (pe_make ⟨T.mk_Sum, T.Sum_init.m.at_, T.Sum_init.m.fn, T.kp_Sum⟩ (ok_Sum_init T) (hr.mono (by decide)) (by rfl) T.g_Sum T.Sum_init.b .nil pass0 (pa_cons (pv 1) (pa_cons (pe_slice sl_list (pv 2) po_none (po_some pe_int)) pa_nil))) (pe_make ⟨T.mk_Sum, T.Sum_init.m.at_, T.Sum_init.m.fn, T.kp_Sum⟩ (ok_Sum_init T) (hr.mono (by decide)) (by rfl) T.g_Sum T.Sum_init.b .nil pass0 (pa_cons (pv 1) (pa_cons (pe_slice sl_list (pv 2) (po_some pe_int) po_none) pa_nil)))))) pss_nil)
      (pss_cons (ps_if (pt_cmpR op_eq (pv 3) pe_int (nomark _)) (pss_one (ps_ret (pe_op (op_own (ok_Sum_and T) (hr.mono (by decide)) T.Sum_and.b T.Sum_and.m (sf_of T.mo_Sum)) (pe_make ⟨T.mk_Sum, T.Sum_init.m.at_, T.Sum_init.m.fn, T.kp_Sum⟩ (ok_Sum_init T) (hr.mono (by decide)) (by rfl) T.g_Sum T.Sum_init.b .nil pass0 (pa_cons (pv 1) (pa_cons (pv 2) pa_nil))) (pe_smeth (pe_glob (v := .ref T.C_Sum) rfl T.g_Sum rfl) T.cr_Sum T.Sum_whole.s (ok_Sum_whole T) (hr.mono (by decide)) T.Sum_whole.b pass0 (pa_cons (pv 1) pa_nil))))) pss_nil)
      (pss_one (ps_ret (pe_make ⟨T.mk_Sum, T.Sum_init.m.at_, T.Sum_init.m.fn, T.kp_Sum⟩ (ok_Sum_init T) (hr.mono (by decide)) (by rfl) T.g_Sum T.Sum_init.b .nil pass0 (pa_cons (pv 1) (pa_cons (pe_op op_cat (pe_revL (pv 2)) (pv 2)) pa_nil))))))), ?_⟩
    dsimp only [cxOf]
    have hsize : sizeLine = 16777216 := sizeLine_eq
    have d0 : Same (del H a) H := del_same _ _
    refine ⟨_, rfl, a, 6, rfl, hp, by decide, by decide, fun H1 d hd hp1 ho1 => ?_⟩
    have d1 : Same (del H a) H1 := (off_del ho1).trans (del_same _ _)
    have hS1 := d1 _ _ hS
    have hP1 := hP.same d1
    have hbr : (rfs bs).length = bs.length := List.length_map _
    have hbp : ∀ p ∈ bs.map Prod.snd, PdOk sg p ∧ p.length ≤ 100 := fun p hp => by
      obtain ⟨b, hb, rfl⟩ := List.mem_map.mp hp
      exact ⟨(hbo b hb).1, Nat.le_trans (hbo b hb).2 (by decide)⟩
    have hao : M23.AllOk (bs.map Prod.snd) := allOk_of hl fun p hp => (hbp p hp).1
    dsimp only [gName]
    refine ⟨_, rfl, rfl, _, rfl, ite2 (fun e => ?_) (fun e => ?_)⟩
    · refine ⟨_, rfl, _, rfl, ?_⟩
      dsimp only [tNoPart]
      refine ⟨_, rfl, l, _, rfl, .inl (.inl hS1), fun p np => ?_⟩
      rw [cutV_n1]
      have sp := same_upd (o := .lst ((rfs bs).take 1)) np
      have hp0 := upd_same (H := H1) (a := p) (o := .lst ((rfs bs).take 1))
      generalize upd H1 p (.lst ((rfs bs).take 1)) = H2 at *
      intro x dx nx ndx _
      refine make_s hl (bun1 (bs.take 1) (by rw [hp0]; unfold rfs; rw [List.map_take]) (fun b hb => sqT_same (hP1 b (List.mem_of_mem_take hb)) sp)) (fun p hp => (hbp p (List.mem_of_mem_take (by rw [← List.map_take]; exact hp))).1) (by rw [List.length_map]; have := List.length_take_le 1 bs; omega) (fun p hp => (hbp p (List.mem_of_mem_take (by rw [← List.map_take]; exact hp))).2) nx ndx (fun H3 s3 hM => ?_)
      have s13 := sp.trans s3
      refine ⟨_, rfl, _, rfl, _, rfl, ?_⟩
      dsimp only [tNoPart]
      refine ⟨l, _, rfl, .inl (.inl (s13 _ _ hS1)), fun p2 n2 => ?_⟩
      rw [cutV_l1]
      have sp2 := same_upd (o := .lst ((rfs bs).drop 1)) n2
      have hp2 := upd_same (H := H3) (a := p2) (o := .lst ((rfs bs).drop 1))
      generalize upd H3 p2 (.lst ((rfs bs).drop 1)) = H4 at *
      have s14 := s13.trans sp2
      intro x2 dx2 nx2 ndx2 _
      refine make_s hl (bun1 (bs.drop 1) (by rw [hp2]; unfold rfs; rw [List.map_drop]) (fun b hb => sqT_same (hP1 b (List.mem_of_mem_drop hb)) s14)) (fun p hp => (hbp p (List.mem_of_mem_drop (by rw [← List.map_drop]; exact hp))).1) (by rw [List.length_map, List.length_drop]; omega) (fun p hp => (hbp p (List.mem_of_mem_drop (by rw [← List.map_drop]; exact hp))).2) nx2 ndx2 (fun H5 s5 hM2 => ?_)
      have hM' := hM.same (sp2.trans s5)
      obtain ⟨da, ta, hata, _⟩ := hM'.at_
      obtain ⟨db, tb', hatb, _⟩ := hM2.at_
      have hk1 := kept_sok hl (ps := (bs.take 1).map Prod.snd) (by rw [List.length_map]; have := List.length_take_le 1 bs; omega) (fun p hp => by obtain ⟨b, hb, rfl⟩ := List.mem_map.mp hp; exact hbo b (List.mem_of_mem_take hb))
      have hk2 := kept_sok hl (ps := (bs.drop 1).map Prod.snd) (by rw [List.length_map, List.length_drop]; omega) (fun p hp => by obtain ⟨b, hb, rfl⟩ := List.mem_map.mp hp; exact hbo b (List.mem_of_mem_drop hb))
      refine ⟨x, _, _, x2, _, _, rfl, rfl, hata, hatb, x, x2, sg, _, _, rfl, hM', hM2, hk1.1, hk2.1, ?_, fun H7 m s7 n7 hM7 => ⟨m, rfl, ?_⟩⟩
      · have l1 := M23.kept_len ((bs.take 1).map Prod.snd)
        have l2 := M23.kept_len ((bs.drop 1).map Prod.snd)
        rw [List.length_map] at l1 l2
        rw [List.length_drop] at l2
        have := List.length_take_le 1 bs
        omega
      · rw [M91.kept_join (allOk_of hl fun p hp => by obtain ⟨b, hb, rfl⟩ := List.mem_map.mp hp; exact (hbo b (List.mem_of_mem_take hb)).1) (allOk_of hl fun p hp => by obtain ⟨b, hb, rfl⟩ := List.mem_map.mp hp; exact (hbo b (List.mem_of_mem_drop hb)).1), ← List.map_append, List.take_append_drop] at hM7
        have sA := s14.trans (s5.trans s7)
        exact q _ m (hp1.same sA) (ho1.trans (Off.of sA)) hM7
    · refine ⟨_, rfl, rfl, _, rfl, ite2 (fun e => ?_) (fun e => ?_)⟩
      · refine ⟨_, rfl, _, rfl, ?_⟩
        intro x dx nx ndx _
        refine make_s hl (bun1 bs hS1 hP1) (fun p hp => (hbp p hp).1) (by rw [List.length_map]; omega) (fun p hp => (hbp p hp).2) nx ndx (fun H3 s3 hM => ?_)
        refine ⟨rfl, _, rfl, sg, rfl, hl, fun H4 y s4 n4 hN => ?_⟩
        have hM' := hM.same s4
        obtain ⟨da, ta, hata, _⟩ := hM'.at_
        obtain ⟨db, tb', hatb, _⟩ := hN.at_
        have hk1 := kept_sok hl (ps := bs.map Prod.snd) (by rw [List.length_map]; omega) (fun p hp => by obtain ⟨b, hb, rfl⟩ := List.mem_map.mp hp; exact hbo b hb)
        refine ⟨x, _, _, y, _, _, rfl, rfl, hata, hatb, x, y, sg, _, rfl, hM', hN, hk1.1, hk1.2, fun H7 m s7 n7 hM7 => ⟨m, rfl, ?_⟩⟩
        have er : (M23.kept (bs.map Prod.snd)).map M23.redOf = M23.kept (bs.map Prod.snd) := by
          refine (List.map_congr_left fun p hp => M23.red_self (M23.kept_good hao p hp)).trans ?_
          exact List.map_id _
        rw [er, M23.kept_kept (M23.kept_ok hao), M23.kept_kept hao] at hM7
        have sA := s3.trans (s4.trans s7)
        exact q _ m (hp1.same sA) (ho1.trans (Off.of sA)) hM7
      · refine ⟨_, rfl, _, rfl, l, _, rfl, .inl (.inl hS1), fun p np => ?_⟩
        have sp := same_upd (o := .lst (rfs bs).reverse) np
        have hp0 := upd_same (H := H1) (a := p) (o := .lst (rfs bs).reverse)
        have hS2 := sp _ _ hS1
        generalize upd H1 p (.lst (rfs bs).reverse) = H2 at *
        refine ⟨_, rfl, p, l, _, _, rfl, rfl, hp0, hS2, by rw [List.length_reverse, hbr]; omega, fun p2 n2 => ?_⟩
        have sp2 := same_upd (o := .lst ((rfs bs).reverse ++ rfs bs)) n2
        have hp2 := upd_same (H := H2) (a := p2) (o := .lst ((rfs bs).reverse ++ rfs bs))
        generalize upd H2 p2 (.lst ((rfs bs).reverse ++ rfs bs)) = H3 at *
        have e0 : (rfs bs).reverse ++ rfs bs = rfs (bs.reverse ++ bs) := by unfold rfs; rw [List.map_append, List.map_reverse]
        have hbq : ∀ p ∈ (bs.reverse ++ bs).map Prod.snd, PdOk sg p ∧ p.length ≤ 100 := fun p hp => by
          rw [List.map_append, List.map_reverse] at hp
          rcases List.mem_append.mp hp with hp | hp
          · exact hbp p (List.mem_reverse.mp hp)
          · exact hbp p hp
        intro x dx nx ndx _
        refine make_s hl (bun1 (bs.reverse ++ bs) (by rw [hp2, e0]) (fun b hb => ?_)) (fun p hp => (hbq p hp).1) (by rw [List.length_map, List.length_append, List.length_reverse]; omega) (fun p hp => (hbq p hp).2) nx ndx (fun H4 s4 hM => ?_)
        · refine sqT_same (hP1 b ?_) (sp.trans sp2)
          rcases List.mem_append.mp hb with hb | hb
          · exact List.mem_reverse.mp hb
          · exact hb
        · rw [List.map_append, List.map_reverse, M91.kept_twice hao] at hM
          have s14 := sp.trans (sp2.trans s4)
          exact q _ x (hp1.same s14) (ho1.trans (Off.of s14)) hM
end
end Lw
namespace Lw
open PySem PySem.Spec PyProof.Rows L3
open L2 hiding del del_same del_ne
theorem sg_lit {v : V} (h : v ∈ [V.str "ab", .str "ab", .str "abc", .str "a", .str "z", .str "qx", .str "gmy"]) : ∃ sg, v = tx sg ∧ Lets sg := by
  simp only [List.mem_cons, List.not_mem_nil, or_false] at h
  rcases h with rfl | rfl | rfl | rfl | rfl | rfl | rfl
  · exact ⟨[97, 98], rfl, by decide, by decide, by decide, by decide⟩
  · exact ⟨[97, 98], rfl, by decide, by decide, by decide, by decide⟩
  · exact ⟨[97, 98, 99], rfl, by decide, by decide, by decide, by decide⟩
  · exact ⟨[97], rfl, by decide, by decide, by decide, by decide⟩
  · exact ⟨[122], rfl, by decide, by decide, by decide, by decide⟩
  · exact ⟨[113, 120], rfl, by decide, by decide, by decide, by decide⟩
  · exact ⟨[103, 109, 121], rfl, by decide, by decide, by decide, by decide⟩
theorem bytl_nV {b : Array UInt8} {l : List Nat} (h : BytL b l) : (bi b).map V.int = nV l := by
  have h : bi b = l.map fun c => ((c : Nat) : Int) := h
  rw [h, List.map_map]
  rfl
theorem nV_snoc (l : List Nat) (n : Nat) : nV (l ++ [n]) = nV l ++ [.int (n : Int)] := by unfold nV; rw [List.map_append]; rfl
theorem wit_self (kp : List M23.Pd) : wit kp kp = true := by
  unfold wit
  refine List.all_eq_true.mpr fun p hp => List.any_eq_true.mpr ⟨p, hp, ?_⟩
  exact M23.runI_some.mpr (.refl p)
theorem eqv_prodsL (R S : List M23.Pd) : PyData.eqv (dPL R) (dPL S) = decide (R = S) := by
  show PyData.eqvAll _ _ = _
  exact eqv_map M23.dP eqv_dP R S
theorem txs_inj : ∀ {a b : List (List Nat)}, a.map tx = b.map tx → a = b
  | [], [], _ => rfl
  | [], _ :: _, h => by cases h
  | _ :: _, [], h => by cases h
  | x :: a, y :: b, h => by
    rw [List.map_cons, List.map_cons] at h
    injection h with h1 h2
    have e1 : x = y := by
      have e2 : tS x = tS y := V.str.inj h1
      have e3 : x.toArray = y.toArray := congrArg Str.cps e2
      simpa using e3
    rw [e1, txs_inj h2]
theorem sText_inj {sg : List Nat} {kp kq : List M23.Pd} (h : SOk sg kp) (h' : SOk sg kq) (e : sText sg kp = sText sg kq) : kp = kq := by
  have e1 : sRows sg kp ++ [[]] = sRows sg kq ++ [[]] := by rw [← h.split, ← h'.split, e]
  have e2 := List.append_cancel_right e1
  have e3 : kp.length = kq.length := by
    have := congrArg List.length e2
    rw [sRows_len, sRows_len] at this
    omega
  refine List.ext_getElem? fun n => ?_
  by_cases hn : n < kp.length
  · have hr : n + 1 < (sRows sg kp).length := by rw [sRows_len]; omega
    have hg := List.getElem?_eq_getElem hr
    obtain ⟨ws, a1, _, a3, _⟩ := sRow_split h hg
    obtain ⟨ws', b1, _, b3, _⟩ := sRow_split h' (n := n + 1) (l := (sRows sg kp)[n + 1]) (by rw [← e2]; exact hg)
    have ew : ws = ws' := txs_inj (a3.symm.trans b3)
    subst ew
    have c1 : (kp.map fun p => wPro :: p)[n]? = some ws := a1
    have c2 : (kq.map fun p => wPro :: p)[n]? = some ws := b1
    rw [List.getElem?_map] at c1 c2
    obtain ⟨p, hp, ep⟩ := Option.map_eq_some_iff.mp c1
    obtain ⟨q, hq, eq⟩ := Option.map_eq_some_iff.mp c2
    rw [hp, hq]
    rw [← eq] at ep
    injection ep with _ ep
    rw [ep]
  · rw [List.getElem?_eq_none (by omega), List.getElem?_eq_none (by omega)]
theorem kept_nil : M23.kept [] = [] := List.eq_nil_of_length_eq_zero (Nat.le_zero.mp (M23.kept_len []))
theorem text_nil (sg : List Nat) : sText sg [] = ([115, 117, 109, 32] ++ sg) ++ [10] := by
  unfold sText sRows sAll
  simp [M90.jn, M90.endd, wSum, TL.joinL]
theorem text_e (sg : List Nat) : sText sg [[]] = ([115, 117, 109, 32] ++ sg) ++ [10, 112, 114, 111, 100, 117, 99, 116, 10] := by
  unfold sText sRows sAll
  simp [M90.jn, M90.endd, wSum, wPro, TL.joinL]
theorem sok_nil {sg : List Nat} (hl : Lets sg) : SOk sg [] := ⟨hl, Nat.zero_le _, fun p hp => nomatch hp⟩
theorem sok_e {sg : List Nat} (hl : Lets sg) : SOk sg [[]] := ⟨hl, by show 1 ≤ 20; decide, fun p hp => by
  rw [List.mem_singleton.mp hp]
  exact ⟨(fun x hx => nomatch hx), Nat.zero_le _⟩⟩
theorem kok_nil {sg : List Nat} (hl : Lets sg) : KOk sg [] := by
  have := kok_of (sg := sg) (ps := []) (fun p hp => nomatch hp) (by rw [kept_nil]; exact sok_nil hl)
  rwa [kept_nil] at this
theorem kept_e : M23.kept [[]] = [[]] := M91.kept_one []
/-- what the texts and codes are, shown -/
def dTold (t : List Nat) : PyData := .list [.str (tS t), .str (tS t), .list (dN t), .list (dN t)]
theorem wt_told {t : List Nat} (ht : ∀ c ∈ t, c < 200) (hz : t.length ≤ 4000) : Wt (dTold t) 600000 3 := by
  have h1 : Wt (.str (tS t)) 124000 1 := (Wt.text (n := 4000) (fun c hc => by have := ht c hc; omega) hz).mono (by decide) (by decide)
  have h2 : Wt (.list (dN t)) 124000 1 := Wt.nats (n := 4000) (fun c hc => by have := ht c hc; omega) hz
  refine (Wt.list (w := 124000) (k := 1) (n := 4) (fun d hd => ?_) (by simp)).mono (by decide) (by decide)
  simp only [List.mem_cons, List.not_mem_nil, or_false] at hd
  rcases hd with rfl | rfl | rfl | rfl
  · exact h1
  · exact h1
  · exact h2
  · exact h2
theorem SumO.out {C : Addr} {K : PySem.W.Frag} {H : Hp} {a x : Addr} {sg : List Nat} {kp : List M23.Pd} (hp : Pot H a) (h : SumO C K H x sg kp) : SumO C K (del H a) x sg kp := by
  obtain ⟨⟨dx, t, h1, h2⟩⟩ := h
  obtain ⟨bs, e1, e2, e3⟩ := dpT_at h2
  have o : Off a H (del H a) := fun b o e n => by rw [del_ne n]; exact e
  obtain ⟨u, v, hu, _⟩ := id hp
  have nx : x ≠ a := fun e => by rw [e, hu] at h1; cases h1
  refine ⟨⟨dx, t, by rw [del_ne nx]; exact h1, ?_⟩⟩
  have h3 := aps_dp (Prods.off hp o e3)
  rw [e2] at h3
  exact .tup (sqT_off hp o e1) h3
theorem kept_sorted (ps : List M23.Pd) : (M23.kept ps).Pairwise fun a b => M23.ple a b = true := List.Pairwise.sublist List.filter_sublist (M23.canon_sorted _)
theorem srt_self {cs : List AP} {ps : List M23.Pd} (h : cs.map Prod.snd = M23.kept ps) : srtS (cs.map txs) = cs.map txs := by
  rw [srt_txs]
  have hs : cs.Pairwise fun a b => M23.ple a.2 b.2 = true := by
    have := kept_sorted ps
    rw [← h, List.pairwise_map] at this
    exact this
  have : srtP cs = cs := List.mergeSort_of_pairwise hs
  rw [this]
section
variable {w : World} {K : PySem.W.Frag} {mg : Str → Option Value} {base : Heap}
def spLRight (Pt : Addr) : Sp := fun vs H Q _ => ∃ a : Addr, vs = [.ref a] ∧ Pot H a ∧ LamX.Tabs (TT Pt) H ∧ ∀ H', OffN a H H' → LamX.Tabs (TT Pt) H' → Q (.bl true) H'
theorem ok_law_right (T : All K mg) {c Pt : Addr} (hcd : T.d_law_right.code = .ref c) (TB : LamX.TabB base mg c Pt) : FnOkG PW w K mg base CX0 15 T.f_law_right T.d_law_right ["_law_pot_here"] (spLRight Pt) := by
  refine okC T.law_right.F sc_law_right (fun vs H Q E h => ?_) (fun A outer s H vs Q E hr hG h => ?_)
  · obtain ⟨a, rfl, _⟩ := h
    rfl
  · obtain ⟨a, rfl, hp, hT, q⟩ := h
    refine ⟨_, pss_cons (ps_set (i := 1) sc_law_right.nd rfl (by first | exact Or.inl rfl | exact Or.inr rfl) (pe_call (ok_law_pick T) (hr.mono (by decide)) (by rfl) T.law_pick.g T.law_pick.F.kp T.law_pick.b .nil pass0 (pa_cons (pv 0) (pa_cons (pe_lst (pa_cons pe_str (pa_cons pe_str (pa_cons pe_str (pa_cons pe_str (pa_cons pe_str (pa_cons pe_str (pa_cons pe_str pa_nil)))))))) pa_nil))))
      (pss_cons (ps_set (i := 2) sc_law_right.nd rfl (by first | exact Or.inl rfl | exact Or.inr rfl) (pe_call (ok_law_products T) (hr.mono (by decide)) (by rfl) T.law_products.g T.law_products.F.kp T.law_products.b .nil pass0 (pa_cons (pv 0) (pa_cons (pv 1) pa_nil))))
      (pss_cons (ps_set (i := 3) sc_law_right.nd rfl (by first | exact Or.inl rfl | exact Or.inr rfl) (pe_make ⟨T.mk_Sum, T.Sum_init.m.at_, T.Sum_init.m.fn, T.kp_Sum⟩ (ok_Sum_init T) (hr.mono (by decide)) (by rfl) T.g_Sum T.Sum_init.b .nil pass0 (pa_cons (pv 1) (pa_cons (pv 2) pa_nil))))
      (pss_cons (ps_asg (pe_tup (pa_cons (pe_call (ok_law_text T) (hr.mono (by decide)) (by rfl) T.law_text.g T.law_text.F.kp T.law_text.b .nil pass0 (pa_cons (pv 1) (pa_cons (pe_meth0 (pv 3) T.cl_Sum T.Sum_products.m (ok_Sum_products T) (hr.mono (by decide)) T.Sum_products.b .nil pass0) pa_nil))) (pa_cons (pe_callB (cr_reprOwn (FnOkH.toG (ok_Sum_repr T)) (hr.mono (by decide)) hG T.Sum_repr.b T.Sum_repr.m) (by rfl) T.b_repr (by decide +kernel) (pa_cons (pv 3) pa_nil)) pa_nil))) (pg_tup rfl (pgs_cons (pg_name (i := 4) sc_law_right.nd rfl (by first | exact Or.inl rfl | exact Or.inr rfl)) (pgs_cons (pg_name (i := 5) sc_law_right.nd rfl (by first | exact Or.inl rfl | exact Or.inr rfl)) pgs_nil))))
      (pss_cons (ps_setLc (i := 6) (own := [("_law_sign", 7)]) (g := gName 7) (tt := tYes) (by rfl) sc_law_right.nd rfl rfl (sw_true rfl rfl rfl (by decide +kernel)) (pi_str (pv 4))
          (blkOk_by (own := [("_law_sign", 7)]) (N := ["_law_pot_here", "_law_signs", "_law_products_here", "_law_thing_here", "_law_due", "_law_seen", "_law_codes", "_law_sign", "_law_told", "_law_back", "_law_near", "_law_more"]) (sc := defScope s_law_right) (by decide +kernel))
          (fun _ _ _ _ _ => pg_name (i := 7) sc_law_right.nd rfl (by first | exact Or.inl rfl | exact Or.inr rfl)) (fun _ _ _ _ _ => pts_nil)
          (fun _ _ _ _ _ => (pe_callB call_ord (by rfl) T.b_ord PyProof.Rows.boot_ord (pa_cons (pv 7) pa_nil))))
      (pss_cons (ps_set (i := 8) sc_law_right.nd rfl (by first | exact Or.inl rfl | exact Or.inr rfl) (pe_lst (pa_cons (pe_call (ok_text_of T) (hr.mono (by decide)) (by rfl) T.text_of.g T.text_of.F.kp T.text_of.b .nil pass0 (pa_cons (pv 3) pa_nil)) (pa_cons (pe_callK0 (FnOkG.of (ok_text_of T)) (hr.mono (by decide)) hG (by rfl) T.text_of.g T.text_of.F.kp (kb1 (n := "entry") T.text_of.F (fun _ _ _ _ _ _ _ => rfl)) pass0 (pk_cons (pv 3) pk_nil)) (pa_cons (pe_callTy (call_r1 (rl_listB rfl)) (by rfl) T.b_list (show bootBuiltins "list" = some (.type "list") by decide +kernel) (pa_cons (pe_call (ok_bytes_of T) (hr.mono (by decide)) (by rfl) T.bytes_of.g T.bytes_of.F.kp T.bytes_of.b .nil pass0 (pa_cons (pv 3) pa_nil)) pa_nil)) (pa_cons (pe_callTy (call_r1 (rl_listB rfl)) (by rfl) T.b_list (show bootBuiltins "list" = some (.type "list") by decide +kernel) (pa_cons (pe_callK0 (FnOkG.of (ok_bytes_of T)) (hr.mono (by decide)) hG (by rfl) T.bytes_of.g T.bytes_of.F.kp (kb1 (n := "entry") T.bytes_of.F (fun _ _ _ _ _ _ _ => rfl)) pass0 (pk_cons (pv 3) pk_nil)) pa_nil)) pa_nil))))))
      (pss_cons (ps_if (PW.pt (pw_or (pt_cmpR op_ne (pe_callB (call_reprD hr hG) (by rfl) T.b_repr (by decide +kernel) (pa_cons (pv 8) pa_nil)) (pe_callB (call_reprD hr hG) (by rfl) T.b_repr (by decide +kernel) (pa_cons (pe_lst (pa_cons (pv 4) (pa_cons (pv 4) (pa_cons (pv 6) (pa_cons (pv 6) pa_nil))))) pa_nil)) (nomark _)) (pw_or1 (pt_cmpR (op_neD (u64 hr)) (pe_meth0 (pv 3) T.cl_Sum T.Sum_products.m (ok_Sum_products T) (hr.mono (by decide)) T.Sum_products.b .nil pass0) (pe_callB (cr_sortTL rfl (u64 hr)) (by rfl) T.b_sorted PyProof.Rows.boot_sorted (pa_cons (pe_meth0 (pv 3) T.cl_Sum T.Sum_products.m (ok_Sum_products T) (hr.mono (by decide)) T.Sum_products.b .nil pass0) pa_nil)) (nomark _))))) (pss_one (ps_ret pe_bl)) pss_nil)
      (pss_cons (ps_for PassesOwn.never rfl (pi_list (pe_lst (pa_cons (pe_call (ok_read_sum T) (hr.mono (by decide)) (by rfl) T.read_sum.g T.read_sum.F.kp T.read_sum.b .nil pass0 (pa_cons (pv 4) pa_nil)) (pa_cons (pe_callK0 (FnOkG.of (ok_read_sum T)) (hr.mono (by decide)) hG (by rfl) T.read_sum.g T.read_sum.F.kp (kb1 (n := "written") T.read_sum.F (fun _ _ _ _ _ _ _ => rfl)) pass0 (pk_cons (pv 4) pk_nil)) (pa_cons (pe_call (ok_read_sum T) (hr.mono (by decide)) (by rfl) T.read_sum.g T.read_sum.F.kp T.read_sum.b .nil pass0 (pa_cons (pe_call (ok_text_of T) (hr.mono (by decide)) (by rfl) T.text_of.g T.text_of.F.kp T.text_of.b .nil pass0 (pa_cons (pv 3) pa_nil)) pa_nil)) pa_nil))))) (pg_name (i := 9) sc_law_right.nd rfl (by first | exact Or.inl rfl | exact Or.inr rfl))
        (pss_cons (ps_if (PW.pt (pw_or (pt_cmpR (op_neOwn (FnOkG.of (ok_Sum_eq T)) (hr.mono (by decide)) hG T.Sum_eq.b T.Sum_eq.m (mro_obj T.mk_Sum) T.ne_Sum) (pv 9) (pv 3) (nomark _)) (pw_or (pt_cmpR op_ne (pe_callB (cr_reprOwn (FnOkH.toG (ok_Sum_repr T)) (hr.mono (by decide)) hG T.Sum_repr.b T.Sum_repr.m) (by rfl) T.b_repr (by decide +kernel) (pa_cons (pv 9) pa_nil)) (pv 5) (nomark _)) (pw_or (pt_cmpR op_ne (pe_call (ok_text_of T) (hr.mono (by decide)) (by rfl) T.text_of.g T.text_of.F.kp T.text_of.b .nil pass0 (pa_cons (pv 9) pa_nil)) (pv 4) (nomark _)) (pw_or1 (pt_not (pt_val (pe_callB call_isi (by rfl) T.b_isinstance boot_isinstance (pa_cons (pv 9) (pa_cons (pe_glob (v := .ref T.C_Sum) rfl T.g_Sum rfl) pa_nil)))))))))) (pss_one (ps_ret pe_bl)) pss_nil)
      (pss_cons (ps_if (PW.pt (pw_or (pt_not (pt_val (pe_meth (pv 9) T.cl_Sum T.Sum_is_within.m (ok_Sum_is_within T) (hr.mono (by decide)) T.Sum_is_within.b .nil pass0 (pa_cons (pv 3) pa_nil)))) (pw_or (pt_not (pt_val (pe_meth (pv 3) T.cl_Sum T.Sum_is_within.m (ok_Sum_is_within T) (hr.mono (by decide)) T.Sum_is_within.b .nil pass0 (pa_cons (pv 9) pa_nil)))) (pw_or1 (pt_cmpR (op_neOwn (FnOkG.of (ok_Sum_eq T)) (hr.mono (by decide)) hG T.Sum_eq.b T.Sum_eq.m (mro_obj T.mk_Sum) T.ne_Sum) (pe_op (op_own (ok_Sum_or T) (hr.mono (by decide)) T.Sum_or.b T.Sum_or.m (sf_of T.mo_Sum)) (pv 9) (pv 3)) (pv 3) (nomark _)))))) (pss_one (ps_ret pe_bl)) pss_nil)
      (pss_one (ps_if (pt_not (pt_val (pe_callG (ok_law_asked_right T) (hr.mono (by decide)) hG (by rfl) T.law_asked_right.g T.law_asked_right.F.kp T.law_asked_right.b pass0 (pa_cons (pv 0) (pa_cons (pv 9) (pa_cons (pv 1) (pa_cons (pv 2) pa_nil))))))) (pss_one (ps_ret pe_bl)) pss_nil)))))
      (pss_cons (ps_if (pt_cmpR op_ne (pe_call (ok_text_of T) (hr.mono (by decide)) (by rfl) T.text_of.g T.text_of.F.kp T.text_of.b .nil pass0 (pa_cons (pe_call (ok_law_thing T) (hr.mono (by decide)) (by rfl) T.law_thing.g T.law_thing.F.kp T.law_thing.b .nil pass0 (pa_cons (pv 0) (pa_cons (pv 1) (pa_cons (pv 2) pa_nil)))) pa_nil)) (pv 4) (nomark _)) (pss_one (ps_ret pe_bl)) pss_nil)
      (pss_cons (ps_set (i := 10) sc_law_right.nd rfl (by first | exact Or.inl rfl | exact Or.inr rfl) (pe_make ⟨T.mk_Sum, T.Sum_init.m.at_, T.Sum_init.m.fn, T.kp_Sum⟩ (ok_Sum_init T) (hr.mono (by decide)) (by rfl) T.g_Sum T.Sum_init.b .nil pass0 (pa_cons (pv 1) (pa_cons (pe_op op_cat (pv 2) (pe_lst (pa_cons (pe_callTy call_tuple_of (by rfl) T.b_tuple (show bootBuiltins "tuple" = some (.type "tuple") by decide +kernel) (pa_cons (pe_lc (own := [("_law_more", 11)]) (g := gName 11) (tt := tYes) rfl sc_law_right.nd (pi_range1 rfl T.b_range (pa_cons pe_int pa_nil))
          (blkOk_by (own := [("_law_more", 11)]) (N := ["_law_pot_here", "_law_signs", "_law_products_here", "_law_thing_here", "_law_due", "_law_seen", "_law_codes", "_law_sign", "_law_told", "_law_back", "_law_near", "_law_more"]) (sc := defScope s_law_right) (by decide +kernel))
          (fun _ _ _ _ _ => pg_name (i := 11) sc_law_right.nd rfl (by first | exact Or.inl rfl | exact Or.inr rfl)) (fun _ _ _ _ _ => pts_nil)
          (fun _ _ _ _ _ => (pe_call (ok_law_piece T) (hr.mono (by decide)) (by rfl) T.law_piece.g T.law_piece.F.kp T.law_piece.b .nil pass0 (pa_cons (pv 0) (pa_cons (pv 1) pa_nil))))) pa_nil)) pa_nil))) pa_nil))))
      (pss_cons (ps_if (PW.pt (pw_or (pt_cmpR op_ne (pe_cmpR op_eq (pe_call (ok_text_of T) (hr.mono (by decide)) (by rfl) T.text_of.g T.text_of.F.kp T.text_of.b .nil pass0 (pa_cons (pv 10) pa_nil)) (pv 4) (by rfl)) (pe_cmpR (op_eqOwn (FnOkG.of (ok_Sum_eq T)) (hr.mono (by decide)) hG T.Sum_eq.b T.Sum_eq.m) (pv 10) (pv 3) (by rfl)) (nomark _)) (pw_or1 (pt_cmpR op_ne (pe_call (ok_text_of T) (hr.mono (by decide)) (by rfl) T.text_of.g T.text_of.F.kp T.text_of.b .nil pass0 (pa_cons (pe_make ⟨T.mk_Sum, T.Sum_init.m.at_, T.Sum_init.m.fn, T.kp_Sum⟩ (ok_Sum_init T) (hr.mono (by decide)) (by rfl) T.g_Sum T.Sum_init.b .nil pass0 (pa_cons (pv 1) (pa_cons (pe_lst pa_nil) pa_nil))) pa_nil)) (pe_op op_addT (pe_op op_addT pe_str (pv 1)) pe_str) (nomark _))))) (pss_one (ps_ret pe_bl)) pss_nil)
      (pss_cons (ps_if (pt_cmpR (op_neD (u64 hr)) (pe_callTy (call_r1 (rl_listB rfl)) (by rfl) T.b_list (show bootBuiltins "list" = some (.type "list") by decide +kernel) (pa_cons (pe_call (ok_bytes_of T) (hr.mono (by decide)) (by rfl) T.bytes_of.g T.bytes_of.F.kp T.bytes_of.b .nil pass0 (pa_cons (pe_make ⟨T.mk_Sum, T.Sum_init.m.at_, T.Sum_init.m.fn, T.kp_Sum⟩ (ok_Sum_init T) (hr.mono (by decide)) (by rfl) T.g_Sum T.Sum_init.b .nil pass0 (pa_cons (pv 1) (pa_cons (pe_lst pa_nil) pa_nil))) pa_nil)) pa_nil)) (pe_lc (own := [("_law_sign", 7)]) (g := gName 7) (tt := tYes) rfl sc_law_right.nd (pi_str (pe_op op_addT (pe_op op_addT pe_str (pv 1)) pe_str))
          (blkOk_by (own := [("_law_sign", 7)]) (N := ["_law_pot_here", "_law_signs", "_law_products_here", "_law_thing_here", "_law_due", "_law_seen", "_law_codes", "_law_sign", "_law_told", "_law_back", "_law_near", "_law_more"]) (sc := defScope s_law_right) (by decide +kernel))
          (fun _ _ _ _ _ => pg_name (i := 7) sc_law_right.nd rfl (by first | exact Or.inl rfl | exact Or.inr rfl)) (fun _ _ _ _ _ => pts_nil)
          (fun _ _ _ _ _ => (pe_callB call_ord (by rfl) T.b_ord PyProof.Rows.boot_ord (pa_cons (pv 7) pa_nil)))) (nomark _)) (pss_one (ps_ret pe_bl)) pss_nil)
      (pss_cons (ps_if (PW.pt (pw_or (pt_cmpR op_ne (pe_call (ok_text_of T) (hr.mono (by decide)) (by rfl) T.text_of.g T.text_of.F.kp T.text_of.b .nil pass0 (pa_cons (pe_make ⟨T.mk_Sum, T.Sum_init.m.at_, T.Sum_init.m.fn, T.kp_Sum⟩ (ok_Sum_init T) (hr.mono (by decide)) (by rfl) T.g_Sum T.Sum_init.b .nil pass0 (pa_cons (pv 1) (pa_cons (pe_lst (pa_cons (pe_tup pa_nil) pa_nil)) pa_nil))) pa_nil)) (pe_op op_addT (pe_op op_addT pe_str (pv 1)) pe_str) (nomark _)) (pw_or1 (pt_cmpR op_ne (pe_callB (cr_lenOwn (FnOkG.of (ok_Sum_len T)) (hr.mono (by decide)) hG T.Sum_len.b T.Sum_len.m) (by rfl) T.b_len PySem.boot_len (pa_cons (pe_call (ok_read_sum T) (hr.mono (by decide)) (by rfl) T.read_sum.g T.read_sum.F.kp T.read_sum.b .nil pass0 (pa_cons (pe_op op_addT (pe_op op_addT pe_str (pv 1)) pe_str) pa_nil)) pa_nil)) pe_int (nomark _))))) (pss_one (ps_ret pe_bl)) pss_nil)
      (pss_one (ps_ret (pe_and (pe_cmpR (op_eqD (u64 hr)) (pe_lamS (T := TT Pt) (k := 9) (by rfl) T.law_line.g T.law_line.F T.law_line.b sc_law_line rfl (by first | exact Or.inl rfl | exact Or.inr (Or.inl rfl)) (line_gives T rfl rfl hG) TB hcd (by exact List.mem_singleton.mpr rfl) (by intro p hp _; rw [List.mem_singleton.mp hp]; rfl) (hr.mono (by decide)) (LamX.lamS_by (sc := defScope s_law_right) (by decide +kernel)) rfl (fun _ _ _ _ _ => rfl)
        (fun A outer s H E f c2 hr => (pe_call (ok_read_machine T) (hr.mono (by decide)) (by rfl) T.read_machine.g T.read_machine.F.kp T.read_machine.b .nil (passes_call (takes_of rfl rfl rfl rfl) (fun _ _ _ _ h => h)) (pa_cons (pv 4) pa_nil)))) (pe_lst (pa_cons pe_int (pa_cons pe_bl pa_nil))) (by rfl))
        (pe_and (pe_cmpR op_eq (pe_callB (cr_reprOwn (FnOkH.toG (ok_Sum_repr T)) (hr.mono (by decide)) hG T.Sum_repr.b T.Sum_repr.m) (by rfl) T.b_repr (by decide +kernel) (pa_cons (pv 3) pa_nil)) (pv 5) (by rfl))
        (pe_one (pe_cmpR op_eq (pe_call (ok_text_of T) (hr.mono (by decide)) (by rfl) T.text_of.g T.text_of.F.kp T.text_of.b .nil pass0 (pa_cons (pv 3) pa_nil)) (pv 4) (by rfl))))))))))))))))))), ?_⟩
    refine ⟨_, rfl, by show 7 ≤ sizeLine; decide, fun p np => ?_⟩
    have hpp := fun o => hp.up (o := o) (hp.ne np)
    refine ⟨a, _, rfl, hpp _, .inr ⟨p, _, rfl, (hp.ne np).symm, .inl (.inl upd_same), by simp, by show 7 ≤ 1000; decide, fun H1 vsg hvm hp1 ho1 => ?_⟩⟩
    obtain ⟨sg, rfl, hl⟩ := sg_lit hvm
    have f1 : Off a H H1 := (Off.of (same_upd np)).trans ho1
    clear ho1 hpp hvm
    have hsl := hl.few
    refine ⟨_, rfl, _, rfl, a, sg, rfl, hp1, hl, fun H2 l bs hp2 ho2 nl hS hP hz hbo => ?_⟩
    have f2 : Off a H H2 := f1.trans ho2
    have hla : l ≠ a := fun e => by obtain ⟨u, v, h, _⟩ := hp1; rw [e, h] at nl; cases nl
    have hbp : ∀ p ∈ bs.map Prod.snd, PdOk sg p ∧ p.length ≤ 100 := fun p hp => by
      obtain ⟨b, hb, rfl⟩ := List.mem_map.mp hp
      exact ⟨(hbo b hb).1, Nat.le_trans (hbo b hb).2 (by decide)⟩
    have hao : M23.AllOk (bs.map Prod.snd) := allOk_of hl fun p hp => (hbp p hp).1
    obtain ⟨hO, hz12⟩ := kept_sok hl (ps := bs.map Prod.snd) (by rw [List.length_map]; omega) (fun p hp => by obtain ⟨b, hb, rfl⟩ := List.mem_map.mp hp; exact hbo b hb)
    have hKO := kok_of hao hO
    have hFew : Few (M23.kept (bs.map Prod.snd)) := ⟨hO.few, fun p hp => ⟨(hO.pd p hp).2, fun y hy => ((hO.pd p hp).1 y hy).tx hl⟩⟩
    have hksr := @srt_self
    refine ⟨_, rfl, _, rfl, ?_⟩
    intro x dx0 nx ndx _
    refine make_s hl (bun1 bs hS hP) (fun p hp => (hbp p hp).1) (by rw [List.length_map]; omega) (fun p hp => (hbp p hp).2) nx ndx (fun H3 s3 hM3 => ?_)
    have hp3 := hp2.same s3
    have f3 : Off a H H3 := f2.trans (Off.of s3)
    have oD : Off a H2 (del H2 a) := fun b o e n => by rw [del_ne n]; exact e
    have hMd := hM3.out hp3
    have hSd : del H3 a l = some (.lst (rfs bs)) := by rw [del_ne hla]; exact s3 _ _ hS
    have hPd : Prods K (del H3 a) bs := (Prods.off hp2 oD hP).same (del_mono a s3)
    generalize hkp : M23.kept (bs.map Prod.snd) = kp at *
    clear hS hP nx ndx hp1 f1 hp2 ho2 f2 s3 nl oD np
    have htz := hO.text
    have htc : ∀ c ∈ sText sg kp, c < 200 := fun c hc => by
      have := hO.asc c hc
      unfold SgnP at this
      omega
    obtain ⟨dx, tt, hat, _⟩ := id hM3.at_
    refine ⟨_, rfl, _, rfl, x, dx, _, rfl, hat, rfl, x, sg, kp, rfl, hM3, fun p4 cs4 n4 hc4 hP4 => ?_⟩
    have s4 := same_upd (o := .lst (rfs cs4)) n4
    refine ⟨p4, sg, cs4, kp, rfl, .inl (.inl upd_same), hP4.same s4, hc4, hO, fun H4 s4' => ?_⟩
    have s4 := s4.trans s4'
    refine ⟨_, rfl, x, dx, _, rfl, s4 _ _ hat, x, sg, kp, rfl, hM3.same s4, hl, hFew, fun H5 s5 => ⟨_, rfl, by show 2 ≤ sizeLine; decide, fun t nt => ?_⟩⟩
    have s6 := same_upd (o := .tup [tx (sText sg kp), .str (spk sg kp)]) nt
    have hT6 := upd_same (H := H5) (a := t) (o := .tup [tx (sText sg kp), .str (spk sg kp)])
    generalize upd H5 t (.tup [tx (sText sg kp), .str (spk sg kp)]) = H6 at *
    refine ⟨t, _, rfl, .inl (.inl hT6), rfl, _, _, rfl, _, _, rfl, rfl, ?_⟩
    have s36 := s4.trans (s5.trans s6)
    refine ⟨_, rfl, tS (sText sg kp), rfl, fun L nL => ?_⟩
    refine lc_gen walk_tx (Same H6) (fun i acc => acc = nV ((sText sg kp).take i)) (sz (by omega)) (fun i acc e => by rw [e, nV_len, List.length_take]; omega) rfl (same_upd nL) (fun _ _ h => same_up h nL) (fun _ _ => trivial) (fun i x' H7 H8 acc C N hi rs hD ha y cc nn => ?_) (fun H7 ys rs hL7 ha => ?_)
    · obtain ⟨rfl, ch, hch, rfl⟩ := y
      refine ⟨rfl, yes_te ⟨_, rfl, _, rfl, rfl, cc _ _ rs hD ?_⟩⟩
      rw [ha, List.take_add_one, hch]
      exact (nV_snoc _ _).symm
    rw [List.take_length] at ha
    subst ha
    have s37 := s36.trans rs
    have hM7 := hM3.same s37
    refine ⟨_, rfl, x, sg, kp, rfl, hM7, hO, fun H8 s8 => ?_⟩
    refine ⟨_, rfl, x, sg, kp, rfl, hM7.same s8, hO, fun H9 s9 => ?_⟩
    have s79 := s8.trans s9
    refine ⟨_, rfl, x, sg, kp, rfl, hM7.same s79, hO, fun H10 b1 s10 hb1 hz1 => ⟨b1, rfl, sz (by omega), fun q1 nq1 => ?_⟩⟩
    rw [bytl_nV hb1]
    have s11 := same_upd (o := .lst (nV (sText sg kp))) nq1
    have hq1 := upd_same (H := H10) (a := q1) (o := .lst (nV (sText sg kp)))
    generalize upd H10 q1 (.lst (nV (sText sg kp))) = H11 at *
    have s7b := s79.trans (s10.trans s11)
    refine ⟨_, rfl, x, sg, kp, rfl, hM7.same s7b, hO, fun H12 b2 s12 hb2 hz2 => ⟨b2, rfl, sz (by omega), fun q2 nq2 => ?_⟩⟩
    rw [bytl_nV hb2]
    have s13 := same_upd (o := .lst (nV (sText sg kp))) nq2
    have hq2 := upd_same (H := H12) (a := q2) (o := .lst (nV (sText sg kp)))
    generalize upd H12 q2 (.lst (nV (sText sg kp))) = H13 at *
    refine ⟨by show 4 ≤ sizeLine; decide, fun TL nTL => ?_⟩
    have s14 := same_upd (o := .lst [tx (sText sg kp), tx (sText sg kp), .ref q1, .ref q2]) nTL
    have hTL := upd_same (H := H13) (a := TL) (o := .lst [tx (sText sg kp), tx (sText sg kp), .ref q1, .ref q2])
    generalize upd H13 TL (.lst [tx (sText sg kp), tx (sText sg kp), .ref q1, .ref q2]) = H14 at *
    have s7d := s7b.trans (s12.trans (s13.trans s14))
    have hD1 : Dp K H14 (.ref TL) (dTold (sText sg kp)) := .lst (.inl (.inl hTL)) (.cons (.str _) (.cons (.str _) (.cons (.lst (.inl (.inl (s14 _ _ (s13 _ _ (s12 _ _ hq1))))) (dpAll_nV _)) (.cons (.lst (.inl (.inl (s14 _ _ hq2))) (dpAll_nV _)) .nil))))
    have wT := wt_told htc (by omega)
    have shT := wT.shw (by decide) (by decide)
    refine ⟨_, rfl, .ref TL, dTold (sText sg kp), rfl, hD1, shT.s, shT.z, shT.p, ?_⟩
    have hL14 := s7d _ _ hL7
    refine ⟨_, rfl, _, rfl, _, rfl, _, rfl, by show 4 ≤ sizeLine; decide, fun TM nTM => ?_⟩
    have s15 := same_upd (o := .lst [tx (sText sg kp), tx (sText sg kp), .ref L, .ref L]) nTM
    have hTM := upd_same (H := H14) (a := TM) (o := .lst [tx (sText sg kp), tx (sText sg kp), .ref L, .ref L])
    generalize upd H14 TM (.lst [tx (sText sg kp), tx (sText sg kp), .ref L, .ref L]) = H15 at *
    have hL15 := s15 _ _ hL14
    have hD2 : Dp K H15 (.ref TM) (dTold (sText sg kp)) := .lst (.inl (.inl hTM)) (.cons (.str _) (.cons (.str _) (.cons (.lst (.inl (.inl hL15)) (dpAll_nV _)) (.cons (.lst (.inl (.inl hL15)) (dpAll_nV _)) .nil))))
    refine ⟨.ref TM, dTold (sText sg kp), rfl, hD2, shT.s, shT.z, shT.p, ?_⟩
    refine ⟨rfl, _, rfl, ite_f (by simp) ?_⟩
    have s715 := s7d.trans s15
    have hM15 := hM7.same s715
    obtain ⟨dx2, t2, hat2, _⟩ := id hM15.at_
    dsimp only [cxOf]
    refine ⟨_, rfl, x, dx2, _, rfl, hat2, rfl, x, sg, kp, rfl, hM15, fun p16 c16 n16 hc16 hP16 => ?_⟩
    have s16 := same_upd (o := .lst (rfs c16)) n16
    have h16 := upd_same (H := H15) (a := p16) (o := .lst (rfs c16))
    have hP16 := hP16.same s16
    generalize upd H15 p16 (.lst (rfs c16)) = H16 at *
    refine ⟨_, rfl, x, dx2, _, rfl, s16 _ _ hat2, rfl, x, sg, kp, rfl, hM15.same s16, fun p17 c17 n17 hc17 hP17 => ?_⟩
    have s17 := same_upd (o := .lst (rfs c17)) n17
    have h17 := upd_same (H := H16) (a := p17) (o := .lst (rfs c17))
    have hP17 := hP17.same s17
    generalize upd H16 p17 (.lst (rfs c17)) = H17 at *
    have er : (c17.map txs).map (fun p => V.ref p.1) = rfs c17 := by unfold rfs; rw [List.map_map]; rfl
    refine ⟨p17, c17.map txs, rfl, .inl (.inl (by rw [er]; exact h17)), fun b hb => ?_, fun p18 n18 => ?_⟩
    · obtain ⟨b0, hb0, rfl⟩ := List.mem_map.mp hb
      exact pd_dp (hP17 b0 hb0)
    rw [hksr (hc17.trans hkp.symm), er]
    have s18 := same_upd (o := .lst (rfs c17)) n18
    have h18 := upd_same (H := H17) (a := p18) (o := .lst (rfs c17))
    generalize upd H17 p18 (.lst (rfs c17)) = H18 at *
    have hA := aps_dp (hP16.same (s17.trans s18))
    have hB := aps_dp (hP17.same s18)
    rw [hc16] at hA
    rw [hc17] at hB
    have wk := (wt_dPL hFew).shaped (by decide)
    refine ⟨dPL kp, dPL kp, .lst (.inl (.inl ((s17.trans s18) _ _ h16))) hA, .lst (.inl (.inl h18)) hB, wk, wk, _, rfl, ite_f (by rw [eqv_prodsL]; simp) ?_⟩
    have s318 := s37.trans (s715.trans (s16.trans (s17.trans s18)))
    have hMd18 := hMd.same (del_mono a s318)
    have hSd18 := del_mono a s318 _ _ hSd
    have hPd18 := hPd.same (del_mono a s318)
    have hp18 := hp3.same s318
    have f18 : Off a H H18 := f3.trans (Off.of s318)
    clear hD1 hD2 shT wT hL14 hL15 hTL hTM hq1 hq2 hb1 hb2 hz1 hz2 hL7 hM7 hMd hSd hPd hp3 f3 hM3 hat hat2 hM15 hA hB h16 h17 h18 hP16 hP17 hP4
    clear s36 s37 s715 s7d s7b s79 s8 s9 s10 s11 s12 s13 s14 s15 s16 s17 s18 rs s4 s4' s5 s6 s318 nt nL nq1 nq2 nTL nTM hT6 n16 n17 n18 n4
    have hM18 := hMd18.same (del_same _ _)
    have hk6 : kp.length ≤ 6 := by
      have := M23.kept_len (bs.map Prod.snd)
      rw [hkp, List.length_map] at this
      omega
    have hk2 : M23.kept (kp ++ kp) = kp := by rw [← hkp]; exact M91.kept_two hao
    refine ⟨_, rfl, sg, kp, rfl, hKO, fun H17 m1 s17 n1 hm1 => ?_⟩
    refine ⟨_, rfl, sg, kp, rfl, hKO, fun H18' m2 s18 n2 hm2 => ?_⟩
    refine ⟨_, rfl, x, sg, kp, rfl, hM18.same (s17.trans s18), hO, fun H19 s19 => ?_⟩
    refine ⟨sg, kp, rfl, hKO, fun H20 m3 s20 n3 hm3 => ⟨by show 3 ≤ sizeLine; decide, fun BL nBL => ?_⟩⟩
    have s21 := same_upd (o := .lst [.ref m1, .ref m2, .ref m3]) nBL
    have hBL := upd_same (H := H20) (a := BL) (o := .lst [.ref m1, .ref m2, .ref m3])
    generalize upd H20 BL (.lst [.ref m1, .ref m2, .ref m3]) = H21 at *
    have s1621 := s17.trans (s18.trans (s19.trans (s20.trans s21)))
    have hp21 := hp18.same s1621
    have naB : BL ≠ a := fun e => by
      obtain ⟨u, v, e2, _⟩ := hp18.same (s17.trans (s18.trans (s19.trans s20)))
      rw [e, e2] at nBL
      cases nBL
    have hms : ∀ v ∈ [V.ref m1, V.ref m2, V.ref m3], ∃ m, v = .ref m ∧ SumO T.C_Sum K (del H21 a) m sg kp := fun v hv => by
      simp only [List.mem_cons, List.not_mem_nil, or_false] at hv
      rcases hv with rfl | rfl | rfl
      · exact ⟨m1, rfl, (hm1.same (s18.trans (s19.trans (s20.trans s21)))).out hp21⟩
      · exact ⟨m2, rfl, (hm2.same (s19.trans (s20.trans s21))).out hp21⟩
      · exact ⟨m3, rfl, (hm3.same s21).out hp21⟩
    have hMd21 := hMd18.same (del_mono a s1621)
    have hSd21 := del_mono a s1621 _ _ hSd18
    have hPd21 := hPd18.same (del_mono a s1621)
    have f21 : Off a H H21 := f18.trans (Off.of s1621)
    clear hm1 hm2 hm3 s17 s18 s19 s20 s21 s1621 n1 n2 n3 nBL hMd18 hSd18 hPd18 hM18 hp18 f18
    refine ⟨BL, rfl, ⟨_, .inl (.inl hBL)⟩, ?_⟩
    refine for_it (walk_list (xs := [.ref m1, .ref m2, .ref m3])) (fun i σ H' => ∃ x9, σ = [some (.ref a), some (tx sg), some (.ref l), some (.ref x), some (tx (sText sg kp)), some (.str (spk sg kp)), some (.ref L), none, some (.ref TL), x9, none, none] ∧ Pot H' a ∧ Off a H21 H') ⟨none, rfl, hp21, Off.refl _ _⟩ (fun i σ H' _ p => by obtain ⟨_, _, _, o⟩ := p; exact .inl (.inl (o _ _ hBL naB))) (fun i v σ H22 H23 hi p y => ?_) (fun σ H22 p => ?_)
    · obtain ⟨x9, rfl, hp22, o22⟩ := p
      obtain ⟨rfl, y⟩ := y
      obtain ⟨m, rfl, hmm⟩ := hms v (List.mem_of_getElem? y)
      have e22 := off_del o22
      have hmd := hmm.same e22
      have hM := hmd.same (del_same _ _)
      have hX := (hMd21.same e22).same (del_same _ _)
      obtain ⟨dxm, _, hatm, _⟩ := id hM.at_
      obtain ⟨dxx, _, hatx, _⟩ := id hX.at_
      refine ⟨_, rfl, _, rfl, m, dxm, _, .ref T.C_Sum, rfl, hatm, ty_sum T hX, first_own, m, .ref x, sg, kp, rfl, hM, hFew, .inl ⟨x, sg, kp, rfl, hX, hFew, ⟨_, rfl, _, rfl, ite_f (by simp) ?_⟩⟩⟩
      refine ⟨_, rfl, m, dxm, _, rfl, hatm, m, sg, kp, rfl, hM, hl, hFew, fun H24 s24 => ⟨_, rfl, _, rfl, rfl, _, rfl, ite_f (by simp) ?_⟩⟩
      refine ⟨_, rfl, m, sg, kp, rfl, hM.same s24, hO, fun H25 s25 => ⟨_, rfl, rfl, _, rfl, ite_f (by simp) ?_⟩⟩
      have s2225 := s24.trans s25
      refine ⟨_, rfl, _, .ref T.C_Sum, .ref T.C_Sum, .ref T.C_Sum, true, rfl, .own _, ty_sum T (hM.same s2225), kit_own T, true, rfl, iteF ?_⟩
      dsimp only [tNext]
      refine ⟨_, rfl, m, dxm, _, rfl, s2225 _ _ hatm, rfl, _, rfl, m, x, sg, kp, kp, rfl, hM.same s2225, hX.same s2225, hFew, hFew, fun H26 s26 => ⟨true, congrArg V.bl (wit_self kp), ite_f rfl ?_⟩⟩
      have s2226 := s2225.trans s26
      refine ⟨_, rfl, x, dxx, _, rfl, s2226 _ _ hatx, rfl, _, rfl, x, m, sg, kp, kp, rfl, hX.same s2226, hM.same s2226, hFew, hFew, fun H27 s27 => ⟨true, congrArg V.bl (wit_self kp), ite_f rfl ?_⟩⟩
      have s2227 := s2226.trans s27
      refine ⟨_, rfl, _, rfl, m, dxm, _, x, dxx, _, rfl, rfl, s2227 _ _ hatm, s2227 _ _ hatx, m, x, sg, kp, kp, rfl, hM.same s2227, hX.same s2227, hO, hO, by omega, fun H28 z s28 nz hZ => ⟨z, rfl, ?_⟩⟩
      rw [hk2] at hZ
      have hX28 := (hX.same s2227).same s28
      obtain ⟨dz, _, hatz, _⟩ := id hZ.at_
      refine ⟨_, rfl, z, dz, _, .ref T.C_Sum, rfl, hatz, ty_sum T hX28, first_own, z, .ref x, sg, kp, rfl, hZ, hFew, .inl ⟨x, sg, kp, rfl, hX28, hFew, ⟨_, rfl, _, rfl, ite_f (by simp) ?_⟩⟩⟩
      have s2228 := s2227.trans s28
      have e28 := del_mono a s2228
      dsimp only [tNext]
      exact ⟨_, rfl, _, rfl, _, rfl, _, rfl, a, m, l, sg, kp, bs, rfl, hp22.same s2228, hmd.same e28, hFew, hl, .inl (.inl (e28 _ _ (e22 _ _ hSd21))), (hPd21.same e22).same e28, by omega, (fun b hb => ⟨(hbo b hb).1, Nat.le_trans (hbo b hb).2 (by decide)⟩), hkp.symm, fun H29 hp29 o29 => ⟨true, rfl, iteF ⟨_, rfl, hp29, o22.trans ((Off.of s2228).trans o29)⟩⟩⟩
    · obtain ⟨x9, rfl, hp22, o22⟩ := p
      have e22 := off_del o22
      have hMd := hMd21.same e22
      have hSd := e22 _ _ hSd21
      have hPd := hPd21.same e22
      have f22 := f21.trans o22
      clear hms hBL naB hMd21 hSd21 hPd21 f21 hp21 e22 o22
      refine ⟨_, rfl, _, rfl, _, rfl, a, l, sg, bs, rfl, hp22, hl, hSd, hPd, hz, hbo, fun H23 m hp23 o23 hM23 => ?_⟩
      rw [hkp] at hM23
      refine ⟨m, sg, kp, rfl, hM23, hO, fun H24 s24 => ⟨_, rfl, rfl, _, rfl, ite_f (by simp) ?_⟩⟩
      have e24 := (off_del o23).trans (del_mono a s24)
      have hp24 := hp23.same s24
      have hMd24 := hMd.same e24
      have hSd24 := e24 _ _ hSd
      have hPd24 := hPd.same e24
      have f24 := f22.trans (o23.trans (Off.of s24))
      clear hMd hSd hPd f22 hp22 hp23 o23 hM23 e24
      dsimp only [tNext]
      refine ⟨_, rfl, _, rfl, _, rfl, by decide, by decide, ?_⟩
      intro D nD
      have naD := hp24.ne nD
      refine lc_it walk_range (fun i H' => Pot H' a ∧ Off a H24 H' ∧ ∃ p : M23.Pd, PdOk sg p ∧ p.length = i ∧ H' D = some (.lst (p.map tx))) ⟨hp24.up naD, (Off.refl a H24).up nD, [], (fun x h => by cases h), rfl, upd_same⟩ (fun _ _ _ _ => trivial) (fun i x5 H5 H6 hi pp yy => ?_) (fun H25 pp => ?_)
      · obtain ⟨hp5, ho5, p, hpk, hpl, hD⟩ := pp
        obtain ⟨rfl, rfl⟩ := yy
        refine ⟨rfl, yes_te ⟨_, rfl, _, rfl, a, sg, rfl, hp5, hl, fun H7 y hy hp7 ho7 => ?_⟩⟩
        have hD7 := ho7 _ _ hD naD.symm
        have hi7 : i < 7 := hi
        refine ⟨_, hD7, by rw [List.length_map, sizeLine_eq]; omega, hp7.up naD, (ho5.trans ho7).up nD, p ++ [y], ?_, by rw [List.length_append, hpl]; rfl, ?_⟩
        · intro z hz
          rcases List.mem_append.mp hz with hz | hz
          · exact hpk z hz
          · rw [List.mem_singleton.mp hz]; exact hy
        · rw [upd_same, List.map_append]; rfl
      obtain ⟨hp25, o25, pc, hpk, hpl, hD⟩ := pp
      have hpl7 : pc.length = 7 := hpl
      have e25 := off_del o25
      have hMd25 := hMd24.same e25
      have hSd25 := e25 _ _ hSd24
      have hPd25 := hPd24.same e25
      have f25 := f24.trans o25
      clear hMd24 hSd24 hPd24 f24 hp24 o25 e25 naD nD
      refine ⟨D, pc.map tx, rfl, .inl ⟨.inl (.inl hD), fun b nb => ⟨by show 1 ≤ sizeLine; decide, fun p1 n1 => ?_⟩⟩⟩
      have sb := same_upd (o := .tup (pc.map tx)) nb
      have hb0 := upd_same (H := H25) (a := b) (o := .tup (pc.map tx))
      have sp1 := same_upd (o := .lst [.ref b]) n1
      have hp1 := upd_same (H := upd H25 b (.tup (pc.map tx))) (a := p1) (o := .lst [.ref b])
      have hb1 := sp1 _ _ hb0
      have s26 := sb.trans sp1
      generalize upd (upd H25 b (.tup (pc.map tx))) p1 (.lst [.ref b]) = H26 at *
      have hbr : (rfs bs).length = bs.length := List.length_map _
      refine ⟨l, p1, _, _, rfl, rfl, s26 _ _ (del_same _ _ _ _ hSd25), hp1, by rw [hbr, sizeLine_eq]; show _ + 1 ≤ _; omega, fun p2 n2 => ?_⟩
      have sp2 := same_upd (o := .lst (rfs bs ++ [.ref b])) n2
      have hp2 := upd_same (H := H26) (a := p2) (o := .lst (rfs bs ++ [.ref b]))
      have hb2 := sp2 _ _ hb1
      have s27 := s26.trans sp2
      generalize upd H26 p2 (.lst (rfs bs ++ [.ref b])) = H27 at *
      have hq12 : ∀ p ∈ (bs ++ [(b, pc)]).map Prod.snd, PdOk sg p ∧ p.length ≤ 12 := fun p hp => by
        rw [List.map_append] at hp
        rcases List.mem_append.mp hp with hp | hp
        · obtain ⟨c, hc, rfl⟩ := List.mem_map.mp hp
          exact hbo c hc
        · rw [List.mem_singleton.mp hp]
          exact ⟨hpk, by show pc.length ≤ 12; omega⟩
      obtain ⟨hOq, _⟩ := kept_sok hl (ps := (bs ++ [(b, pc)]).map Prod.snd) (by rw [List.length_map, List.length_append]; show _ + 1 ≤ _; omega) hq12
      intro y dy ny ndy _
      refine make_s hl (bun1 (bs ++ [(b, pc)]) (by rw [hp2]; unfold rfs; rw [List.map_append]; rfl) (fun c hc => ?_)) (fun p hp => (hq12 p hp).1) (by rw [List.length_map, List.length_append]; show _ + 1 ≤ _; omega) (fun p hp => Nat.le_trans (hq12 p hp).2 (by decide)) ny ndy (fun H28 s28 hY => ?_)
      · rcases List.mem_append.mp hc with hc | hc
        · exact sqT_same ((hPd25.same (del_same _ _)) c hc) s27
        · rw [List.mem_singleton.mp hc]
          exact .inl (.inl hb2)
      generalize hkq : M23.kept ((bs ++ [(b, pc)]).map Prod.snd) = kq at *
      have hFewq : Few kq := ⟨hOq.few, fun p hp => ⟨(hOq.pd p hp).2, fun y hy => ((hOq.pd p hp).1 y hy).tx hl⟩⟩
      have s2528 := s27.trans s28
      have hMd28 := hMd25.same (del_mono a s2528)
      have hp28 := hp25.same s2528
      have f28 := f25.trans (Off.of s2528)
      clear hMd25 hSd25 hPd25 f25 hp25 s26 s27 s28 s2528 hD hb0 hb1 hb2 hp1 hp2 sb sp1 sp2 n1 n2 nb ny ndy
      have hX := hMd28.same (del_same _ _)
      dsimp only [gName]
      have hdec : decide (tx (sText sg kq) = tx (sText sg kp)) = (decide (sg = sg) && decide (kq = kp)) := by
        rw [decide_eq_true (rfl : sg = sg), Bool.true_and]
        refine decide_eq_decide.mpr ⟨fun e => sText_inj hOq hO ?_, fun e => by rw [e]⟩
        have e2 : tS (sText sg kq) = tS (sText sg kp) := V.str.inj e
        have e3 : (sText sg kq).toArray = (sText sg kp).toArray := congrArg Str.cps e2
        simpa using e3
      refine ⟨_, rfl, y, sg, kq, rfl, hY, hOq, fun H29 s29 => ⟨_, rfl, rfl, ?_⟩⟩
      have hY29 := hY.same s29
      have hX29 := hX.same s29
      obtain ⟨dyy, _, haty, _⟩ := id hY29.at_
      refine ⟨_, rfl, _, rfl, y, dyy, _, .ref T.C_Sum, rfl, haty, ty_sum T hX29, first_own, y, .ref x, sg, kq, rfl, hY29, hFewq, .inl ⟨x, sg, kp, rfl, hX29, hFew, ⟨_, rfl, rfl, _, rfl, ite_f (by rw [hdec]; simp) ?_⟩⟩⟩
      refine ⟨_, rfl, by show 0 ≤ sizeLine; decide, fun e1 ne1 => ?_⟩
      have se1 := same_upd (o := .lst []) ne1
      have he1 := upd_same (H := H29) (a := e1) (o := .lst [])
      generalize upd H29 e1 (.lst []) = H30 at *
      intro z dz nz ndz _
      refine make_s hl (bun1 [] (by rw [he1]; rfl) (fun b hb => nomatch hb)) (fun p hp => nomatch hp) (by show 0 ≤ 20; decide) (fun p hp => nomatch hp) nz ndz (fun H31 s31 hZ => ?_)
      have hZ : SumO T.C_Sum K H31 z sg [] := by
        have := hZ
        rw [show ([] : List AP).map Prod.snd = [] from rfl, kept_nil] at this
        exact this
      refine ⟨z, sg, [], rfl, hZ, sok_nil hl, fun H32 s32 => ?_⟩
      have hadd1 : ([115, 117, 109, 32] : List Nat).length + sg.length ≤ sizeLine := by rw [sizeLine_eq]; show 4 + _ ≤ _; omega
      have hadd2 : (([115, 117, 109, 32] : List Nat) ++ sg).length + ([10] : List Nat).length ≤ sizeLine := by rw [sizeLine_eq, List.length_append]; show 4 + _ + 1 ≤ _; omega
      refine ⟨_, rfl, [115, 117, 109, 32], sg, rfl, rfl, hadd1, _, [10], rfl, rfl, hadd2, rfl, _, rfl, ite_f (by rw [text_nil]; simp) ?_⟩
      have s2932 := s29.trans (se1.trans (s31.trans s32))
      have hMd32 := hMd28.same (del_mono a s2932)
      have hp32 := hp28.same s2932
      have f32 := f28.trans (Off.of s2932)
      clear hMd28 hp28 f28 hX hX29 hY hY29 hZ s29 se1 s31 s32 s2932 ne1 nz ndz he1 haty hOq hFewq hkq hdec hq12
      dsimp only [tNext]
      refine ⟨_, rfl, by show 0 ≤ sizeLine; decide, fun e2 ne2 => ?_⟩
      have se2 := same_upd (o := .lst []) ne2
      have he2 := upd_same (H := H32) (a := e2) (o := .lst [])
      generalize upd H32 e2 (.lst []) = H33 at *
      intro z dz nz ndz _
      refine make_s hl (bun1 [] (by rw [he2]; rfl) (fun b hb => nomatch hb)) (fun p hp => nomatch hp) (by show 0 ≤ 20; decide) (fun p hp => nomatch hp) nz ndz (fun H34 s34 hZ => ?_)
      have hZ : SumO T.C_Sum K H34 z sg [] := by
        have := hZ
        rw [show ([] : List AP).map Prod.snd = [] from rfl, kept_nil] at this
        exact this
      refine ⟨z, sg, [], rfl, hZ, sok_nil hl, fun H35 b1 s35 hb1 hz1 => ⟨b1, rfl, sz (by omega), fun q1 nq1 => ?_⟩⟩
      rw [bytl_nV hb1, text_nil]
      have sq1 := same_upd (o := .lst (nV (([115, 117, 109, 32] ++ sg) ++ [10]))) nq1
      have hq1 := upd_same (H := H35) (a := q1) (o := .lst (nV (([115, 117, 109, 32] ++ sg) ++ [10])))
      generalize upd H35 q1 (.lst (nV (([115, 117, 109, 32] ++ sg) ++ [10]))) = H36 at *
      have htl : (([115, 117, 109, 32] ++ sg) ++ [10]).length ≤ 8 := by rw [List.length_append, List.length_append]; show 4 + _ + 1 ≤ _; omega
      have htc2 : ∀ c ∈ (([115, 117, 109, 32] ++ sg) ++ [10]), c < 200 := fun c hc => by
        have := (sok_nil hl).asc c (by rw [text_nil]; exact hc)
        unfold SgnP at this
        omega
      refine ⟨_, rfl, [115, 117, 109, 32], sg, rfl, rfl, hadd1, _, [10], rfl, rfl, hadd2, tS (([115, 117, 109, 32] ++ sg) ++ [10]), rfl, fun D2 nD2 => ?_⟩
      generalize hw0 : ([115, 117, 109, 32] ++ sg) ++ [10] = w0 at *
      refine lc_gen walk_tx (Same H36) (fun i acc => acc = nV (w0.take i)) (sz (by omega)) (fun i acc e => by rw [e, nV_len, List.length_take]; omega) rfl (same_upd nD2) (fun _ _ h => same_up h nD2) (fun _ _ => trivial) (fun i x' H7 H8 acc C N hi rs hD ha y cc nn => ?_) (fun H37 ys rs hD2 ha => ?_)
      · obtain ⟨rfl, ch, hch, rfl⟩ := y
        refine ⟨rfl, yes_te ⟨_, rfl, _, rfl, rfl, cc _ _ rs hD ?_⟩⟩
        rw [ha, List.take_add_one, hch]
        exact (nV_snoc _ _).symm
      rw [List.take_length] at ha
      subst ha
      have wn : SeqAt.shaped (.list (dN w0)) = true := (Wt.nats (n := 8) (fun c hc => by have := htc2 c hc; omega) htl).shaped (by decide)
      refine ⟨.list (dN w0), .list (dN w0), .lst (.inl (.inl (rs _ _ hq1))) (dpAll_nV _), .lst (.inl (.inl hD2)) (dpAll_nV _), wn, wn, _, rfl, ite_f (by rw [show PyData.eqv (.list (dN w0)) (.list (dN w0)) = decide (w0 = w0) from eqv_dN w0 w0]; simp) ?_⟩
      have s3237 := se2.trans (s34.trans (s35.trans (sq1.trans rs)))
      have hMd37 := hMd32.same (del_mono a s3237)
      have hp37 := hp32.same s3237
      have f37 := f32.trans (Off.of s3237)
      clear hMd32 hp32 f32 se2 s34 s35 sq1 rs s3237 hq1 hD2 hb1 hz1 hZ nz ndz ne2 he2 nq1 nD2
      dsimp only [tNext]
      refine ⟨_, rfl, by show 0 ≤ sizeLine; decide, fun et net => ⟨by show 1 ≤ sizeLine; decide, fun e3 ne3 => ?_⟩⟩
      have set' := same_upd (o := .tup []) net
      have het := upd_same (H := H37) (a := et) (o := .tup [])
      have se3 := same_upd (o := .lst [.ref et]) ne3
      have he3 := upd_same (H := upd H37 et (.tup [])) (a := e3) (o := .lst [.ref et])
      have het3 := se3 _ _ het
      have s38 := set'.trans se3
      generalize upd (upd H37 et (.tup [])) e3 (.lst [.ref et]) = H38 at *
      intro z dz nz ndz _
      refine make_s hl (bun1 [(et, [])] (by rw [he3]; rfl) (fun b hb => by rw [List.mem_singleton.mp hb]; exact .inl (.inl het3))) (fun p hp => by rw [List.mem_singleton.mp hp]; exact fun x hx => nomatch hx) (by show 1 ≤ 20; decide) (fun p hp => by rw [List.mem_singleton.mp hp]; exact Nat.zero_le _) nz ndz (fun H39 s39 hZ => ?_)
      have hZ : SumO T.C_Sum K H39 z sg [[]] := by
        have := hZ
        rw [show ([(et, [])] : List AP).map Prod.snd = [[]] from rfl, kept_e] at this
        exact this
      refine ⟨z, sg, [[]], rfl, hZ, sok_e hl, fun H40 s40 => ?_⟩
      have hadd3 : (([115, 117, 109, 32] : List Nat) ++ sg).length + ([10, 112, 114, 111, 100, 117, 99, 116, 10] : List Nat).length ≤ sizeLine := by rw [sizeLine_eq, List.length_append]; show 4 + _ + 9 ≤ _; omega
      refine ⟨_, rfl, [115, 117, 109, 32], sg, rfl, rfl, hadd1, _, [10, 112, 114, 111, 100, 117, 99, 116, 10], rfl, rfl, hadd3, rfl, _, rfl, ite_f (by rw [text_e]; simp) ?_⟩
      have s3740 := s38.trans (s39.trans s40)
      refine ⟨_, rfl, [115, 117, 109, 32], sg, rfl, rfl, hadd1, _, [10], rfl, rfl, hadd2, sg, [], by rw [text_nil]; rfl, kok_nil hl, fun H41 m4 s41 n41 hM41 => ?_⟩
      obtain ⟨dm4, _, hat4, _⟩ := id hM41.at_
      refine ⟨m4, dm4, _, rfl, hat4, m4, sg, [], rfl, hM41, 0, rfl, Nat.zero_le _, rfl, _, rfl, ite_f rfl ?_⟩
      have s3741 := s3740.trans s41
      have hMd41 := hMd37.same (del_mono a s3741)
      have f41 := f37.trans (Off.of (a := a) s3741)
      have hX41 := hMd41.same (del_same _ _)
      have hT41 := tabs_off hT hp f41
      clear hMd37 hp37 f37 s38 s39 s40 s41 s3740 s3741 set' se3 het he3 het3 hM41 hat4 hZ nz ndz
      refine next_to ?_
      refine ⟨hT41, fun H42 e42 t42 => ⟨fun H43 E' Qv s43 qE => ⟨_, rfl, sg, kp, rfl, hO, fun H44 d s44 hd => qE H44 d s44 hd⟩, fun H43 pp s43 hpp => ⟨by show 2 ≤ sizeLine; decide, fun p2 n2 => ?_⟩⟩⟩
      have s44 := same_upd (o := .lst [.int 1, .bl true]) n2
      have h2 := upd_same (H := H43) (a := p2) (o := .lst [.int 1, .bl true])
      generalize upd H43 p2 (.lst [.int 1, .bl true]) = H44 at *
      have hX44 := (hX41.ext e42).same (s43.trans s44)
      have dd : ∀ {r : Addr}, H44 r = some (.lst [.int 1, .bl true]) → Dp K H44 (.ref r) (.list [.int 1, .bool true]) := fun h => .lst (.inl (.inl h)) (.cons (.int _) (.cons (.bl _) .nil))
      refine ⟨.list [.int 1, .bool true], .list [.int 1, .bool true], dd (s44 _ _ hpp), dd h2, by decide +kernel, by decide +kernel, _, rfl, ite_t (by decide +kernel) ?_⟩
      obtain ⟨dxe, _, hate, _⟩ := id hX44.at_
      refine ⟨_, rfl, x, dxe, _, rfl, hate, x, sg, kp, rfl, hX44, hl, hFew, fun H45 s45 => ⟨_, rfl, _, rfl, rfl, _, rfl, ite_t (by simp) ?_⟩⟩
      refine ⟨_, rfl, x, sg, kp, rfl, hX44.same s45, hO, fun H46 s46 => ⟨_, rfl, rfl, ?_⟩⟩
      have sL := s43.trans (s44.trans (s45.trans s46))
      have e : decide (tx (sText sg kp) = tx (sText sg kp)) = true := by simp
      rw [e]
      exact q _ (((OffN.off f41).trans (OffN.ext e42)).trans (OffN.off (Off.of sL))) (t42.ext sL)
end
end Lw
namespace Lw
open PySem PySem.Spec PyProof.Rows L3
open L2 hiding del del_same del_ne
section
variable {w : World} {K : PySem.W.Frag} {mg : Str → Option Value} {base : Heap}
def spLaw (K : PySem.W.Frag) (Pt : Addr) : Sp := fun vs H Q _ => ∃ (a : Addr) (ns : List Int), vs = [.ref a] ∧ SqL K H a (ns.map V.int) ∧ LamX.Tabs (TT Pt) H ∧ ∀ H', Q (.bl true) H'
theorem ok_law (T : All K mg) {c Pt : Addr} (hcd : T.d_law_right.code = .ref c) (TB : LamX.TabB base mg c Pt) : FnOkG PW w K mg base CX0 16 T.f_law T.d_law ["_law_script"] (spLaw K Pt) := by
  refine okG T.law.F sc_law (fun vs H Q E h => ?_) (fun cdv A outer s H vs Q E hr hG h => ?_)
  · obtain ⟨a, ns, rfl, _⟩ := h
    rfl
  · obtain ⟨a, ns, rfl, hS, hT, q⟩ := h
    refine ⟨_, pss_one (ps_ret (pe_callB (cr_all rfl) (by rfl) T.b_all PyProof.Rows.boot_all (pa_cons (pe_lc (own := [("_law_k", 1)]) (g := gName 1) (tt := tYes) rfl sc_law.nd (pi_range1 rfl T.b_range (pa_cons (pe_callB (call_max2 rfl) (by rfl) T.b_max PyProof.Rows.boot_max (pa_cons pe_int (pa_cons (pe_callB (call_min2 rfl) (by rfl) T.b_min PyProof.Rows.boot_min (pa_cons (pe_callB call_len_seq (by rfl) T.b_len PySem.boot_len (pa_cons (pv 0) pa_nil)) (pa_cons pe_int pa_nil))) pa_nil))) pa_nil))
          (blkOk_by (own := [("_law_k", 1)]) (N := ["_law_script", "_law_k"]) (sc := defScope s_law) (by decide +kernel))
          (fun _ _ _ _ _ => pg_name (i := 1) sc_law.nd rfl (by first | exact Or.inl rfl | exact Or.inr rfl)) (fun _ _ _ _ _ => pts_nil)
          (fun _ _ _ _ _ => (pe_callG (ok_law_right T hcd TB) (hr.mono (by decide)) hG (by rfl) T.law_right.g T.law_right.F.kp T.law_right.b pass0 (pa_cons (pe_call (ok_law_pot T) (hr.mono (by decide)) (by rfl) T.law_pot.g T.law_pot.F.kp T.law_pot.b .nil pass0 (pa_cons (pv 0) (pa_cons (pv 1) pa_nil))) pa_nil)))) pa_nil))), ?_⟩
    refine ⟨_, rfl, a, _, rfl, .inl hS, _, _, rfl, _, _, rfl, ?_⟩
    refine ⟨_, rfl, ?_, ?_, fun D nD => ?_⟩
    · split <;> split <;> omega
    · split <;> split <;> omega
    have hn : ((if (if 3 < ((ns.map V.int).length : Int) then 3 else ((ns.map V.int).length : Int)) > 1 then (if 3 < ((ns.map V.int).length : Int) then 3 else ((ns.map V.int).length : Int)) else 1) : Int).toNat ≤ 4 := by
      split <;> split <;> omega
    have hAD : (∀ H', SqL K H' a (ns.map V.int)) ∨ a ≠ D := by
      rcases hS with (h | ⟨o', h⟩) | h
      · exact .inr (ne_of_none h nD)
      · exact .inr (ne_of_none h nD)
      · exact .inl fun H' => .inr h
    refine lc_gen2 walk_range (fun H' => LamX.Tabs (TT Pt) H' ∧ SqL K H' a (ns.map V.int)) (fun i acc => acc = List.replicate i (.bl true)) ?_ (fun i acc e => by rw [e]; simp) rfl
      ⟨hT.ext (same_upd nD), sq_new hS nD⟩ (fun H' acc acc' hD r => ⟨tabs_lst r.1 hD (Off.at (Off.refl _ _)), hAD.elim (fun h => h _) (fun n => sq_put r.2 n)⟩) (fun _ _ => trivial) (fun i x H7 H8 acc C N hi r hD ha y c n => ?_) (fun H7 xs r hD ha => ?_)
    · rw [sizeLine_eq]
      exact Nat.le_trans hn (by decide)
    · obtain ⟨rfl, rfl⟩ := y
      have hi4 : i < 4 := Nat.lt_of_lt_of_le hi hn
      refine ⟨rfl, yes_te ?_⟩
      refine ⟨_, rfl, _, rfl, a, ns, i, congrArg (fun z => [V.ref a, V.int z]) (Int.zero_add _), r.2, by omega, fun H9 p s9 n9 hp9 => ?_⟩
      refine ⟨p, rfl, hp9, r.1.ext s9, fun H10 o10 t10 => ?_⟩
      refine c _ _ ⟨t10, sq_offN r.2 n9 s9 o10⟩ (o10 _ _ (s9 _ _ hD) (fun ps z => by cases z) (ne_of_none hD n9)) ?_
      rw [ha, List.replicate_succ']
    · subst ha
      refine ⟨D, List.replicate _ true, rfl, .inl (.inl (by rw [hD, List.map_replicate])), ?_⟩
      rw [all_id_rep]
      exact q _
theorem fin {w : World} {K : PySem.W.Frag} {mg mb : Str → Option Value} {fa fl a c Pt : Addr} {s₁ : Shared} {vs : List Value} {ns : List Int}
    (KX : K.In s₁.heap) (hns : s₁.heap.Ns mainGlobals mg) (hb : s₁.heap.Ns builtinsNs mb) (hbb : ∀ x : Str, x ≠ "__name__" → mb x = bootBuiltins x) (hlim : s₁.heap.NoLimit) (hg : s₁.gens = #[])
    (hT : s₁.heap.get? Pt = some (PySem.W.tabObj #[])) (nT : K.lookup Pt = none) (hC : PySem.W.codeHdIn K c Pt = true)
    (hbm : ∃ (bm : Addr) (ob : Obj), mg "__builtins__" = some (.ref bm) ∧ bm ≠ builtinsNs ∧ s₁.heap.get? bm = some ob ∧ ob.cls = .type "module" ∧ ob.dict = some builtinsNs ∧ ob.data = .plain)
    (ha : s₁.heap.get? a = some { cls := .type "list", data := .seq vs.toArray }) (hi : IntsAre vs ns) (hl : ns.length ≤ sizeLine) (hmg : mg "law" = some (.ref fa))
    (hall : ∃ T : All K mg, T.f_law = fl ∧ T.d_law_right.code = .ref c) :
    codeAny (model PW w) callerA (.call (.ref fa) ⟨[.ref a], []⟩) (fun r s' => r = .ok (.ret (.bool true)) ∧ OldK s₁.heap s'.heap ∧ s'.os = s₁.os ∧ AllBare s'.gens) s₁ := by
  obtain ⟨T, _, hcd⟩ := hall
  have e : T.f_law = fa := by
    have h := T.law.g
    rw [hmg] at h
    exact (Value.ref.inj (Option.some.inj h)).symm
  rw [← e]
  refine law_callG (cs := [(c, Pt)]) (k := 16) (sp := spLaw K Pt) KX hns hb hbb hlim hg (fun p hp => ?_) (fun p hp => ?_) (fun p hp => ?_) hbm ha hi hl ⟨rfl, by decide, by decide⟩ (fun base hK hM TB => ok_law T hcd (TB (c, Pt) (List.mem_singleton.mpr rfl))) T.law.b (fun H hH hS => ?_)
  · rw [List.mem_singleton.mp hp]; exact hT
  · rw [List.mem_singleton.mp hp]; exact nT
  · rw [List.mem_singleton.mp hp]; exact PySem.W.codeHd_of_K KX hC
  · refine ⟨a, ns, rfl, hS, fun p hp => ?_, fun H' => rfl⟩
    rw [List.mem_singleton.mp hp]
    exact LamX.TabS.nil (hH (c, Pt) (List.mem_singleton.mpr rfl))
end
end Lw
namespace Lw
open PySem PySem.Spec PyProof.Rows L2 L3
theorem all_mk {K : PySem.W.Frag} {h : Heap} {mg : Str → Option Value} (X : K.In h) (G : h.Ns mainGlobals mg)
    {f_is_list : Addr} {oc_is_list kV_is_list dc_is_list pm_is_list cd_is_list ct_is_list : Value} {od_is_list an_is_list : Option Addr} {sl_is_list : Array (Option Value)}
    (a_is_list : PySem.W.nsIn K mainGlobals "is_list" = some (some (.ref f_is_list))) (l_is_list : K.lookup f_is_list = some ⟨oc_is_list, od_is_list, .func (PySem.W.fnOf "is_list" "is_list" (defArgs s_is_list) (defBody s_is_list) (defScope s_is_list) .none kV_is_list dc_is_list pm_is_list an_is_list cd_is_list ct_is_list), sl_is_list⟩) (e_is_list : PySem.W.codeIn K cd_is_list "is_list" = true) (k_is_list : PySem.W.keepIn K (.ref f_is_list) = true)
    {f_is_text : Addr} {oc_is_text kV_is_text dc_is_text pm_is_text cd_is_text ct_is_text : Value} {od_is_text an_is_text : Option Addr} {sl_is_text : Array (Option Value)}
    (a_is_text : PySem.W.nsIn K mainGlobals "is_text" = some (some (.ref f_is_text))) (l_is_text : K.lookup f_is_text = some ⟨oc_is_text, od_is_text, .func (PySem.W.fnOf "is_text" "is_text" (defArgs s_is_text) (defBody s_is_text) (defScope s_is_text) .none kV_is_text dc_is_text pm_is_text an_is_text cd_is_text ct_is_text), sl_is_text⟩) (e_is_text : PySem.W.codeIn K cd_is_text "is_text" = true) (k_is_text : PySem.W.keepIn K (.ref f_is_text) = true)
    {f_are_letters : Addr} {oc_are_letters kV_are_letters dc_are_letters pm_are_letters cd_are_letters ct_are_letters : Value} {od_are_letters an_are_letters : Option Addr} {sl_are_letters : Array (Option Value)}
    (a_are_letters : PySem.W.nsIn K mainGlobals "are_letters" = some (some (.ref f_are_letters))) (l_are_letters : K.lookup f_are_letters = some ⟨oc_are_letters, od_are_letters, .func (PySem.W.fnOf "are_letters" "are_letters" (defArgs s_are_letters) (defBody s_are_letters) (defScope s_are_letters) .none kV_are_letters dc_are_letters pm_are_letters an_are_letters cd_are_letters ct_are_letters), sl_are_letters⟩) (e_are_letters : PySem.W.codeIn K cd_are_letters "are_letters" = true) (k_are_letters : PySem.W.keepIn K (.ref f_are_letters) = true)
    {f_is_text_over : Addr} {oc_is_text_over kV_is_text_over dc_is_text_over pm_is_text_over cd_is_text_over ct_is_text_over : Value} {od_is_text_over an_is_text_over : Option Addr} {sl_is_text_over : Array (Option Value)}
    (a_is_text_over : PySem.W.nsIn K mainGlobals "is_text_over" = some (some (.ref f_is_text_over))) (l_is_text_over : K.lookup f_is_text_over = some ⟨oc_is_text_over, od_is_text_over, .func (PySem.W.fnOf "is_text_over" "is_text_over" (defArgs s_is_text_over) (defBody s_is_text_over) (defScope s_is_text_over) .none kV_is_text_over dc_is_text_over pm_is_text_over an_is_text_over cd_is_text_over ct_is_text_over), sl_is_text_over⟩) (e_is_text_over : PySem.W.codeIn K cd_is_text_over "is_text_over" = true) (k_is_text_over : PySem.W.keepIn K (.ref f_is_text_over) = true)
    {f_want_few : Addr} {oc_want_few kV_want_few dc_want_few pm_want_few cd_want_few ct_want_few : Value} {od_want_few an_want_few : Option Addr} {sl_want_few : Array (Option Value)}
    (a_want_few : PySem.W.nsIn K mainGlobals "want_few" = some (some (.ref f_want_few))) (l_want_few : K.lookup f_want_few = some ⟨oc_want_few, od_want_few, .func (PySem.W.fnOf "want_few" "want_few" (defArgs s_want_few) (defBody s_want_few) (defScope s_want_few) .none kV_want_few dc_want_few pm_want_few an_want_few cd_want_few ct_want_few), sl_want_few⟩) (e_want_few : PySem.W.codeIn K cd_want_few "want_few" = true) (k_want_few : PySem.W.keepIn K (.ref f_want_few) = true)
    {f_want_same : Addr} {oc_want_same kV_want_same dc_want_same pm_want_same cd_want_same ct_want_same : Value} {od_want_same an_want_same : Option Addr} {sl_want_same : Array (Option Value)}
    (a_want_same : PySem.W.nsIn K mainGlobals "want_same" = some (some (.ref f_want_same))) (l_want_same : K.lookup f_want_same = some ⟨oc_want_same, od_want_same, .func (PySem.W.fnOf "want_same" "want_same" (defArgs s_want_same) (defBody s_want_same) (defScope s_want_same) .none kV_want_same dc_want_same pm_want_same an_want_same cd_want_same ct_want_same), sl_want_same⟩) (e_want_same : PySem.W.codeIn K cd_want_same "want_same" = true) (k_want_same : PySem.W.keepIn K (.ref f_want_same) = true)
    {f_is_star : Addr} {oc_is_star kV_is_star dc_is_star pm_is_star cd_is_star ct_is_star : Value} {od_is_star an_is_star : Option Addr} {sl_is_star : Array (Option Value)}
    (a_is_star : PySem.W.nsIn K mainGlobals "is_star" = some (some (.ref f_is_star))) (l_is_star : K.lookup f_is_star = some ⟨oc_is_star, od_is_star, .func (PySem.W.fnOf "is_star" "is_star" (defArgs s_is_star) (defBody s_is_star) (defScope s_is_star) .none kV_is_star dc_is_star pm_is_star an_is_star cd_is_star ct_is_star), sl_is_star⟩) (e_is_star : PySem.W.codeIn K cd_is_star "is_star" = true) (k_is_star : PySem.W.keepIn K (.ref f_is_star) = true)
    {f_letters_in : Addr} {oc_letters_in kV_letters_in dc_letters_in pm_letters_in cd_letters_in ct_letters_in : Value} {od_letters_in an_letters_in : Option Addr} {sl_letters_in : Array (Option Value)}
    (a_letters_in : PySem.W.nsIn K mainGlobals "letters_in" = some (some (.ref f_letters_in))) (l_letters_in : K.lookup f_letters_in = some ⟨oc_letters_in, od_letters_in, .func (PySem.W.fnOf "letters_in" "letters_in" (defArgs s_letters_in) (defBody s_letters_in) (defScope s_letters_in) .none kV_letters_in dc_letters_in pm_letters_in an_letters_in cd_letters_in ct_letters_in), sl_letters_in⟩) (e_letters_in : PySem.W.codeIn K cd_letters_in "letters_in" = true) (k_letters_in : PySem.W.keepIn K (.ref f_letters_in) = true)
    {f_are_rising : Addr} {oc_are_rising kV_are_rising dc_are_rising pm_are_rising cd_are_rising ct_are_rising : Value} {od_are_rising an_are_rising : Option Addr} {sl_are_rising : Array (Option Value)}
    (a_are_rising : PySem.W.nsIn K mainGlobals "are_rising" = some (some (.ref f_are_rising))) (l_are_rising : K.lookup f_are_rising = some ⟨oc_are_rising, od_are_rising, .func (PySem.W.fnOf "are_rising" "are_rising" (defArgs s_are_rising) (defBody s_are_rising) (defScope s_are_rising) .none kV_are_rising dc_are_rising pm_are_rising an_are_rising cd_are_rising ct_are_rising), sl_are_rising⟩) (e_are_rising : PySem.W.codeIn K cd_are_rising "are_rising" = true) (k_are_rising : PySem.W.keepIn K (.ref f_are_rising) = true)
    {f_is_piece : Addr} {oc_is_piece kV_is_piece dc_is_piece pm_is_piece cd_is_piece ct_is_piece : Value} {od_is_piece an_is_piece : Option Addr} {sl_is_piece : Array (Option Value)}
    (a_is_piece : PySem.W.nsIn K mainGlobals "is_piece" = some (some (.ref f_is_piece))) (l_is_piece : K.lookup f_is_piece = some ⟨oc_is_piece, od_is_piece, .func (PySem.W.fnOf "is_piece" "is_piece" (defArgs s_is_piece) (defBody s_is_piece) (defScope s_is_piece) .none kV_is_piece dc_is_piece pm_is_piece an_is_piece cd_is_piece ct_is_piece), sl_is_piece⟩) (e_is_piece : PySem.W.codeIn K cd_is_piece "is_piece" = true) (k_is_piece : PySem.W.keepIn K (.ref f_is_piece) = true)
    {f_is_product : Addr} {oc_is_product kV_is_product dc_is_product pm_is_product cd_is_product ct_is_product : Value} {od_is_product an_is_product : Option Addr} {sl_is_product : Array (Option Value)}
    (a_is_product : PySem.W.nsIn K mainGlobals "is_product" = some (some (.ref f_is_product))) (l_is_product : K.lookup f_is_product = some ⟨oc_is_product, od_is_product, .func (PySem.W.fnOf "is_product" "is_product" (defArgs s_is_product) (defBody s_is_product) (defScope s_is_product) .none kV_is_product dc_is_product pm_is_product an_is_product cd_is_product ct_is_product), sl_is_product⟩) (e_is_product : PySem.W.codeIn K cd_is_product "is_product" = true) (k_is_product : PySem.W.keepIn K (.ref f_is_product) = true)
    {f_is_product_over : Addr} {oc_is_product_over kV_is_product_over dc_is_product_over pm_is_product_over cd_is_product_over ct_is_product_over : Value} {od_is_product_over an_is_product_over : Option Addr} {sl_is_product_over : Array (Option Value)}
    (a_is_product_over : PySem.W.nsIn K mainGlobals "is_product_over" = some (some (.ref f_is_product_over))) (l_is_product_over : K.lookup f_is_product_over = some ⟨oc_is_product_over, od_is_product_over, .func (PySem.W.fnOf "is_product_over" "is_product_over" (defArgs s_is_product_over) (defBody s_is_product_over) (defScope s_is_product_over) .none kV_is_product_over dc_is_product_over pm_is_product_over an_is_product_over cd_is_product_over ct_is_product_over), sl_is_product_over⟩) (e_is_product_over : PySem.W.codeIn K cd_is_product_over "is_product_over" = true) (k_is_product_over : PySem.W.keepIn K (.ref f_is_product_over) = true)
    {f_holds : Addr} {oc_holds kV_holds dc_holds pm_holds cd_holds ct_holds : Value} {od_holds an_holds : Option Addr} {sl_holds : Array (Option Value)}
    (a_holds : PySem.W.nsIn K mainGlobals "holds" = some (some (.ref f_holds))) (l_holds : K.lookup f_holds = some ⟨oc_holds, od_holds, .func (PySem.W.fnOf "holds" "holds" (defArgs s_holds) (defBody s_holds) (defScope s_holds) .none kV_holds dc_holds pm_holds an_holds cd_holds ct_holds), sl_holds⟩) (e_holds : PySem.W.codeIn K cd_holds "holds" = true) (k_holds : PySem.W.keepIn K (.ref f_holds) = true)
    {f_place_behind : Addr} {oc_place_behind kV_place_behind dc_place_behind pm_place_behind cd_place_behind ct_place_behind : Value} {od_place_behind an_place_behind : Option Addr} {sl_place_behind : Array (Option Value)}
    (a_place_behind : PySem.W.nsIn K mainGlobals "place_behind" = some (some (.ref f_place_behind))) (l_place_behind : K.lookup f_place_behind = some ⟨oc_place_behind, od_place_behind, .func (PySem.W.fnOf "place_behind" "place_behind" (defArgs s_place_behind) (defBody s_place_behind) (defScope s_place_behind) .none kV_place_behind dc_place_behind pm_place_behind an_place_behind cd_place_behind ct_place_behind), sl_place_behind⟩) (e_place_behind : PySem.W.codeIn K cd_place_behind "place_behind" = true) (k_place_behind : PySem.W.keepIn K (.ref f_place_behind) = true)
    {f_place_by : Addr} {oc_place_by kV_place_by dc_place_by pm_place_by cd_place_by ct_place_by : Value} {od_place_by an_place_by : Option Addr} {sl_place_by : Array (Option Value)}
    (a_place_by : PySem.W.nsIn K mainGlobals "place_by" = some (some (.ref f_place_by))) (l_place_by : K.lookup f_place_by = some ⟨oc_place_by, od_place_by, .func (PySem.W.fnOf "place_by" "place_by" (defArgs s_place_by) (defBody s_place_by) (defScope s_place_by) .none kV_place_by dc_place_by pm_place_by an_place_by cd_place_by ct_place_by), sl_place_by⟩) (e_place_by : PySem.W.codeIn K cd_place_by "place_by" = true) (k_place_by : PySem.W.keepIn K (.ref f_place_by) = true)
    {f_has_text : Addr} {oc_has_text kV_has_text dc_has_text pm_has_text cd_has_text ct_has_text : Value} {od_has_text an_has_text : Option Addr} {sl_has_text : Array (Option Value)}
    (a_has_text : PySem.W.nsIn K mainGlobals "has_text" = some (some (.ref f_has_text))) (l_has_text : K.lookup f_has_text = some ⟨oc_has_text, od_has_text, .func (PySem.W.fnOf "has_text" "has_text" (defArgs s_has_text) (defBody s_has_text) (defScope s_has_text) .none kV_has_text dc_has_text pm_has_text an_has_text cd_has_text ct_has_text), sl_has_text⟩) (e_has_text : PySem.W.codeIn K cd_has_text "has_text" = true) (k_has_text : PySem.W.keepIn K (.ref f_has_text) = true)
    {f_lies_within : Addr} {oc_lies_within kV_lies_within dc_lies_within pm_lies_within cd_lies_within ct_lies_within : Value} {od_lies_within an_lies_within : Option Addr} {sl_lies_within : Array (Option Value)}
    (a_lies_within : PySem.W.nsIn K mainGlobals "lies_within" = some (some (.ref f_lies_within))) (l_lies_within : K.lookup f_lies_within = some ⟨oc_lies_within, od_lies_within, .func (PySem.W.fnOf "lies_within" "lies_within" (defArgs s_lies_within) (defBody s_lies_within) (defScope s_lies_within) .none kV_lies_within dc_lies_within pm_lies_within an_lies_within cd_lies_within ct_lies_within), sl_lies_within⟩) (e_lies_within : PySem.W.codeIn K cd_lies_within "lies_within" = true) (k_lies_within : PySem.W.keepIn K (.ref f_lies_within) = true)
    {f_reduced_of : Addr} {oc_reduced_of kV_reduced_of dc_reduced_of pm_reduced_of cd_reduced_of ct_reduced_of : Value} {od_reduced_of an_reduced_of : Option Addr} {sl_reduced_of : Array (Option Value)}
    (a_reduced_of : PySem.W.nsIn K mainGlobals "reduced_of" = some (some (.ref f_reduced_of))) (l_reduced_of : K.lookup f_reduced_of = some ⟨oc_reduced_of, od_reduced_of, .func (PySem.W.fnOf "reduced_of" "reduced_of" (defArgs s_reduced_of) (defBody s_reduced_of) (defScope s_reduced_of) .none kV_reduced_of dc_reduced_of pm_reduced_of an_reduced_of cd_reduced_of ct_reduced_of), sl_reduced_of⟩) (e_reduced_of : PySem.W.codeIn K cd_reduced_of "reduced_of" = true) (k_reduced_of : PySem.W.keepIn K (.ref f_reduced_of) = true)
    {f_kept_of : Addr} {oc_kept_of kV_kept_of dc_kept_of pm_kept_of cd_kept_of ct_kept_of : Value} {od_kept_of an_kept_of : Option Addr} {sl_kept_of : Array (Option Value)}
    (a_kept_of : PySem.W.nsIn K mainGlobals "kept_of" = some (some (.ref f_kept_of))) (l_kept_of : K.lookup f_kept_of = some ⟨oc_kept_of, od_kept_of, .func (PySem.W.fnOf "kept_of" "kept_of" (defArgs s_kept_of) (defBody s_kept_of) (defScope s_kept_of) .none kV_kept_of dc_kept_of pm_kept_of an_kept_of cd_kept_of ct_kept_of), sl_kept_of⟩) (e_kept_of : PySem.W.codeIn K cd_kept_of "kept_of" = true) (k_kept_of : PySem.W.keepIn K (.ref f_kept_of) = true)
    {f_met_behind : Addr} {oc_met_behind kV_met_behind dc_met_behind pm_met_behind cd_met_behind ct_met_behind : Value} {od_met_behind an_met_behind : Option Addr} {sl_met_behind : Array (Option Value)}
    (a_met_behind : PySem.W.nsIn K mainGlobals "met_behind" = some (some (.ref f_met_behind))) (l_met_behind : K.lookup f_met_behind = some ⟨oc_met_behind, od_met_behind, .func (PySem.W.fnOf "met_behind" "met_behind" (defArgs s_met_behind) (defBody s_met_behind) (defScope s_met_behind) .none kV_met_behind dc_met_behind pm_met_behind an_met_behind cd_met_behind ct_met_behind), sl_met_behind⟩) (e_met_behind : PySem.W.codeIn K cd_met_behind "met_behind" = true) (k_met_behind : PySem.W.keepIn K (.ref f_met_behind) = true)
    {f_meet_of : Addr} {oc_meet_of kV_meet_of dc_meet_of pm_meet_of cd_meet_of ct_meet_of : Value} {od_meet_of an_meet_of : Option Addr} {sl_meet_of : Array (Option Value)}
    (a_meet_of : PySem.W.nsIn K mainGlobals "meet_of" = some (some (.ref f_meet_of))) (l_meet_of : K.lookup f_meet_of = some ⟨oc_meet_of, od_meet_of, .func (PySem.W.fnOf "meet_of" "meet_of" (defArgs s_meet_of) (defBody s_meet_of) (defScope s_meet_of) .none kV_meet_of dc_meet_of pm_meet_of an_meet_of cd_meet_of ct_meet_of), sl_meet_of⟩) (e_meet_of : PySem.W.codeIn K cd_meet_of "meet_of" = true) (k_meet_of : PySem.W.keepIn K (.ref f_meet_of) = true)
    {f_sum_of : Addr} {oc_sum_of kV_sum_of dc_sum_of pm_sum_of cd_sum_of ct_sum_of : Value} {od_sum_of an_sum_of : Option Addr} {sl_sum_of : Array (Option Value)}
    (a_sum_of : PySem.W.nsIn K mainGlobals "sum_of" = some (some (.ref f_sum_of))) (l_sum_of : K.lookup f_sum_of = some ⟨oc_sum_of, od_sum_of, .func (PySem.W.fnOf "sum_of" "sum_of" (defArgs s_sum_of) (defBody s_sum_of) (defScope s_sum_of) .none kV_sum_of dc_sum_of pm_sum_of an_sum_of cd_sum_of ct_sum_of), sl_sum_of⟩) (e_sum_of : PySem.W.codeIn K cd_sum_of "sum_of" = true) (k_sum_of : PySem.W.keepIn K (.ref f_sum_of) = true)
    {f_all_within : Addr} {oc_all_within kV_all_within dc_all_within pm_all_within cd_all_within ct_all_within : Value} {od_all_within an_all_within : Option Addr} {sl_all_within : Array (Option Value)}
    (a_all_within : PySem.W.nsIn K mainGlobals "all_within" = some (some (.ref f_all_within))) (l_all_within : K.lookup f_all_within = some ⟨oc_all_within, od_all_within, .func (PySem.W.fnOf "all_within" "all_within" (defArgs s_all_within) (defBody s_all_within) (defScope s_all_within) .none kV_all_within dc_all_within pm_all_within an_all_within cd_all_within ct_all_within), sl_all_within⟩) (e_all_within : PySem.W.codeIn K cd_all_within "all_within" = true) (k_all_within : PySem.W.keepIn K (.ref f_all_within) = true)
    {f_meets_of : Addr} {oc_meets_of kV_meets_of dc_meets_of pm_meets_of cd_meets_of ct_meets_of : Value} {od_meets_of an_meets_of : Option Addr} {sl_meets_of : Array (Option Value)}
    (a_meets_of : PySem.W.nsIn K mainGlobals "meets_of" = some (some (.ref f_meets_of))) (l_meets_of : K.lookup f_meets_of = some ⟨oc_meets_of, od_meets_of, .func (PySem.W.fnOf "meets_of" "meets_of" (defArgs s_meets_of) (defBody s_meets_of) (defScope s_meets_of) .none kV_meets_of dc_meets_of pm_meets_of an_meets_of cd_meets_of ct_meets_of), sl_meets_of⟩) (e_meets_of : PySem.W.codeIn K cd_meets_of "meets_of" = true) (k_meets_of : PySem.W.keepIn K (.ref f_meets_of) = true)
    {f_want_letters : Addr} {oc_want_letters kV_want_letters dc_want_letters pm_want_letters cd_want_letters ct_want_letters : Value} {od_want_letters an_want_letters : Option Addr} {sl_want_letters : Array (Option Value)}
    (a_want_letters : PySem.W.nsIn K mainGlobals "want_letters" = some (some (.ref f_want_letters))) (l_want_letters : K.lookup f_want_letters = some ⟨oc_want_letters, od_want_letters, .func (PySem.W.fnOf "want_letters" "want_letters" (defArgs s_want_letters) (defBody s_want_letters) (defScope s_want_letters) .none kV_want_letters dc_want_letters pm_want_letters an_want_letters cd_want_letters ct_want_letters), sl_want_letters⟩) (e_want_letters : PySem.W.codeIn K cd_want_letters "want_letters" = true) (k_want_letters : PySem.W.keepIn K (.ref f_want_letters) = true)
    {f_line_of : Addr} {oc_line_of kV_line_of dc_line_of pm_line_of cd_line_of ct_line_of : Value} {od_line_of an_line_of : Option Addr} {sl_line_of : Array (Option Value)}
    (a_line_of : PySem.W.nsIn K mainGlobals "line_of" = some (some (.ref f_line_of))) (l_line_of : K.lookup f_line_of = some ⟨oc_line_of, od_line_of, .func (PySem.W.fnOf "line_of" "line_of" (defArgs s_line_of) (defBody s_line_of) (defScope s_line_of) .none kV_line_of dc_line_of pm_line_of an_line_of cd_line_of ct_line_of), sl_line_of⟩) (e_line_of : PySem.W.codeIn K cd_line_of "line_of" = true) (k_line_of : PySem.W.keepIn K (.ref f_line_of) = true)
    {f_machine_lines : Addr} {oc_machine_lines kV_machine_lines dc_machine_lines pm_machine_lines cd_machine_lines ct_machine_lines : Value} {od_machine_lines an_machine_lines : Option Addr} {sl_machine_lines : Array (Option Value)}
    (a_machine_lines : PySem.W.nsIn K mainGlobals "machine_lines" = some (some (.ref f_machine_lines))) (l_machine_lines : K.lookup f_machine_lines = some ⟨oc_machine_lines, od_machine_lines, .func (PySem.W.fnOf "machine_lines" "machine_lines" (defArgs s_machine_lines) (defBody s_machine_lines) (defScope s_machine_lines) .none kV_machine_lines dc_machine_lines pm_machine_lines an_machine_lines cd_machine_lines ct_machine_lines), sl_machine_lines⟩) (e_machine_lines : PySem.W.codeIn K cd_machine_lines "machine_lines" = true) (k_machine_lines : PySem.W.keepIn K (.ref f_machine_lines) = true)
    {f_sum_lines : Addr} {oc_sum_lines kV_sum_lines dc_sum_lines pm_sum_lines cd_sum_lines ct_sum_lines : Value} {od_sum_lines an_sum_lines : Option Addr} {sl_sum_lines : Array (Option Value)}
    (a_sum_lines : PySem.W.nsIn K mainGlobals "sum_lines" = some (some (.ref f_sum_lines))) (l_sum_lines : K.lookup f_sum_lines = some ⟨oc_sum_lines, od_sum_lines, .func (PySem.W.fnOf "sum_lines" "sum_lines" (defArgs s_sum_lines) (defBody s_sum_lines) (defScope s_sum_lines) .none kV_sum_lines dc_sum_lines pm_sum_lines an_sum_lines cd_sum_lines ct_sum_lines), sl_sum_lines⟩) (e_sum_lines : PySem.W.codeIn K cd_sum_lines "sum_lines" = true) (k_sum_lines : PySem.W.keepIn K (.ref f_sum_lines) = true)
    {f_text_of : Addr} {oc_text_of kV_text_of dc_text_of pm_text_of cd_text_of ct_text_of : Value} {od_text_of an_text_of : Option Addr} {sl_text_of : Array (Option Value)}
    (a_text_of : PySem.W.nsIn K mainGlobals "text_of" = some (some (.ref f_text_of))) (l_text_of : K.lookup f_text_of = some ⟨oc_text_of, od_text_of, .func (PySem.W.fnOf "text_of" "text_of" (defArgs s_text_of) (defBody s_text_of) (defScope s_text_of) .none kV_text_of dc_text_of pm_text_of an_text_of cd_text_of ct_text_of), sl_text_of⟩) (e_text_of : PySem.W.codeIn K cd_text_of "text_of" = true) (k_text_of : PySem.W.keepIn K (.ref f_text_of) = true)
    {f_bytes_of : Addr} {oc_bytes_of kV_bytes_of dc_bytes_of pm_bytes_of cd_bytes_of ct_bytes_of : Value} {od_bytes_of an_bytes_of : Option Addr} {sl_bytes_of : Array (Option Value)}
    (a_bytes_of : PySem.W.nsIn K mainGlobals "bytes_of" = some (some (.ref f_bytes_of))) (l_bytes_of : K.lookup f_bytes_of = some ⟨oc_bytes_of, od_bytes_of, .func (PySem.W.fnOf "bytes_of" "bytes_of" (defArgs s_bytes_of) (defBody s_bytes_of) (defScope s_bytes_of) .none kV_bytes_of dc_bytes_of pm_bytes_of an_bytes_of cd_bytes_of ct_bytes_of), sl_bytes_of⟩) (e_bytes_of : PySem.W.codeIn K cd_bytes_of "bytes_of" = true) (k_bytes_of : PySem.W.keepIn K (.ref f_bytes_of) = true)
    {f_goal_of : Addr} {oc_goal_of kV_goal_of dc_goal_of pm_goal_of cd_goal_of ct_goal_of : Value} {od_goal_of an_goal_of : Option Addr} {sl_goal_of : Array (Option Value)}
    (a_goal_of : PySem.W.nsIn K mainGlobals "goal_of" = some (some (.ref f_goal_of))) (l_goal_of : K.lookup f_goal_of = some ⟨oc_goal_of, od_goal_of, .func (PySem.W.fnOf "goal_of" "goal_of" (defArgs s_goal_of) (defBody s_goal_of) (defScope s_goal_of) .none kV_goal_of dc_goal_of pm_goal_of an_goal_of cd_goal_of ct_goal_of), sl_goal_of⟩) (e_goal_of : PySem.W.codeIn K cd_goal_of "goal_of" = true) (k_goal_of : PySem.W.keepIn K (.ref f_goal_of) = true)
    {f_read_by : Addr} {oc_read_by kV_read_by dc_read_by pm_read_by cd_read_by ct_read_by : Value} {od_read_by an_read_by : Option Addr} {sl_read_by : Array (Option Value)}
    (a_read_by : PySem.W.nsIn K mainGlobals "read_by" = some (some (.ref f_read_by))) (l_read_by : K.lookup f_read_by = some ⟨oc_read_by, od_read_by, .func (PySem.W.fnOf "read_by" "read_by" (defArgs s_read_by) (defBody s_read_by) (defScope s_read_by) .none kV_read_by dc_read_by pm_read_by an_read_by cd_read_by ct_read_by), sl_read_by⟩) (e_read_by : PySem.W.codeIn K cd_read_by "read_by" = true) (k_read_by : PySem.W.keepIn K (.ref f_read_by) = true)
    {f_read_machine : Addr} {oc_read_machine kV_read_machine dc_read_machine pm_read_machine cd_read_machine ct_read_machine : Value} {od_read_machine an_read_machine : Option Addr} {sl_read_machine : Array (Option Value)}
    (a_read_machine : PySem.W.nsIn K mainGlobals "read_machine" = some (some (.ref f_read_machine))) (l_read_machine : K.lookup f_read_machine = some ⟨oc_read_machine, od_read_machine, .func (PySem.W.fnOf "read_machine" "read_machine" (defArgs s_read_machine) (defBody s_read_machine) (defScope s_read_machine) .none kV_read_machine dc_read_machine pm_read_machine an_read_machine cd_read_machine ct_read_machine), sl_read_machine⟩) (e_read_machine : PySem.W.codeIn K cd_read_machine "read_machine" = true) (k_read_machine : PySem.W.keepIn K (.ref f_read_machine) = true)
    {f_read_sum : Addr} {oc_read_sum kV_read_sum dc_read_sum pm_read_sum cd_read_sum ct_read_sum : Value} {od_read_sum an_read_sum : Option Addr} {sl_read_sum : Array (Option Value)}
    (a_read_sum : PySem.W.nsIn K mainGlobals "read_sum" = some (some (.ref f_read_sum))) (l_read_sum : K.lookup f_read_sum = some ⟨oc_read_sum, od_read_sum, .func (PySem.W.fnOf "read_sum" "read_sum" (defArgs s_read_sum) (defBody s_read_sum) (defScope s_read_sum) .none kV_read_sum dc_read_sum pm_read_sum an_read_sum cd_read_sum ct_read_sum), sl_read_sum⟩) (e_read_sum : PySem.W.codeIn K cd_read_sum "read_sum" = true) (k_read_sum : PySem.W.keepIn K (.ref f_read_sum) = true)
    {f_law_pot : Addr} {oc_law_pot kV_law_pot dc_law_pot pm_law_pot cd_law_pot ct_law_pot : Value} {od_law_pot an_law_pot : Option Addr} {sl_law_pot : Array (Option Value)}
    (a_law_pot : PySem.W.nsIn K mainGlobals "_law_pot" = some (some (.ref f_law_pot))) (l_law_pot : K.lookup f_law_pot = some ⟨oc_law_pot, od_law_pot, .func (PySem.W.fnOf "_law_pot" "_law_pot" (defArgs s_law_pot) (defBody s_law_pot) (defScope s_law_pot) .none kV_law_pot dc_law_pot pm_law_pot an_law_pot cd_law_pot ct_law_pot), sl_law_pot⟩) (e_law_pot : PySem.W.codeIn K cd_law_pot "_law_pot" = true) (k_law_pot : PySem.W.keepIn K (.ref f_law_pot) = true)
    {f_law_draw : Addr} {oc_law_draw kV_law_draw dc_law_draw pm_law_draw cd_law_draw ct_law_draw : Value} {od_law_draw an_law_draw : Option Addr} {sl_law_draw : Array (Option Value)}
    (a_law_draw : PySem.W.nsIn K mainGlobals "_law_draw" = some (some (.ref f_law_draw))) (l_law_draw : K.lookup f_law_draw = some ⟨oc_law_draw, od_law_draw, .func (PySem.W.fnOf "_law_draw" "_law_draw" (defArgs s_law_draw) (defBody s_law_draw) (defScope s_law_draw) .none kV_law_draw dc_law_draw pm_law_draw an_law_draw cd_law_draw ct_law_draw), sl_law_draw⟩) (e_law_draw : PySem.W.codeIn K cd_law_draw "_law_draw" = true) (k_law_draw : PySem.W.keepIn K (.ref f_law_draw) = true)
    {f_law_pick : Addr} {oc_law_pick kV_law_pick dc_law_pick pm_law_pick cd_law_pick ct_law_pick : Value} {od_law_pick an_law_pick : Option Addr} {sl_law_pick : Array (Option Value)}
    (a_law_pick : PySem.W.nsIn K mainGlobals "_law_pick" = some (some (.ref f_law_pick))) (l_law_pick : K.lookup f_law_pick = some ⟨oc_law_pick, od_law_pick, .func (PySem.W.fnOf "_law_pick" "_law_pick" (defArgs s_law_pick) (defBody s_law_pick) (defScope s_law_pick) .none kV_law_pick dc_law_pick pm_law_pick an_law_pick cd_law_pick ct_law_pick), sl_law_pick⟩) (e_law_pick : PySem.W.codeIn K cd_law_pick "_law_pick" = true) (k_law_pick : PySem.W.keepIn K (.ref f_law_pick) = true)
    {f_law_piece : Addr} {oc_law_piece kV_law_piece dc_law_piece pm_law_piece cd_law_piece ct_law_piece : Value} {od_law_piece an_law_piece : Option Addr} {sl_law_piece : Array (Option Value)}
    (a_law_piece : PySem.W.nsIn K mainGlobals "_law_piece" = some (some (.ref f_law_piece))) (l_law_piece : K.lookup f_law_piece = some ⟨oc_law_piece, od_law_piece, .func (PySem.W.fnOf "_law_piece" "_law_piece" (defArgs s_law_piece) (defBody s_law_piece) (defScope s_law_piece) .none kV_law_piece dc_law_piece pm_law_piece an_law_piece cd_law_piece ct_law_piece), sl_law_piece⟩) (e_law_piece : PySem.W.codeIn K cd_law_piece "_law_piece" = true) (k_law_piece : PySem.W.keepIn K (.ref f_law_piece) = true)
    {f_law_products : Addr} {oc_law_products kV_law_products dc_law_products pm_law_products cd_law_products ct_law_products : Value} {od_law_products an_law_products : Option Addr} {sl_law_products : Array (Option Value)}
    (a_law_products : PySem.W.nsIn K mainGlobals "_law_products" = some (some (.ref f_law_products))) (l_law_products : K.lookup f_law_products = some ⟨oc_law_products, od_law_products, .func (PySem.W.fnOf "_law_products" "_law_products" (defArgs s_law_products) (defBody s_law_products) (defScope s_law_products) .none kV_law_products dc_law_products pm_law_products an_law_products cd_law_products ct_law_products), sl_law_products⟩) (e_law_products : PySem.W.codeIn K cd_law_products "_law_products" = true) (k_law_products : PySem.W.keepIn K (.ref f_law_products) = true)
    {f_law_text : Addr} {oc_law_text kV_law_text dc_law_text pm_law_text cd_law_text ct_law_text : Value} {od_law_text an_law_text : Option Addr} {sl_law_text : Array (Option Value)}
    (a_law_text : PySem.W.nsIn K mainGlobals "_law_text" = some (some (.ref f_law_text))) (l_law_text : K.lookup f_law_text = some ⟨oc_law_text, od_law_text, .func (PySem.W.fnOf "_law_text" "_law_text" (defArgs s_law_text) (defBody s_law_text) (defScope s_law_text) .none kV_law_text dc_law_text pm_law_text an_law_text cd_law_text ct_law_text), sl_law_text⟩) (e_law_text : PySem.W.codeIn K cd_law_text "_law_text" = true) (k_law_text : PySem.W.keepIn K (.ref f_law_text) = true)
    {f_law_line : Addr} {oc_law_line kV_law_line dc_law_line pm_law_line cd_law_line ct_law_line : Value} {od_law_line an_law_line : Option Addr} {sl_law_line : Array (Option Value)}
    (a_law_line : PySem.W.nsIn K mainGlobals "_law_line" = some (some (.ref f_law_line))) (l_law_line : K.lookup f_law_line = some ⟨oc_law_line, od_law_line, .func (PySem.W.fnOf "_law_line" "_law_line" (defArgs s_law_line) (defBody s_law_line) (defScope s_law_line) .none kV_law_line dc_law_line pm_law_line an_law_line cd_law_line ct_law_line), sl_law_line⟩) (e_law_line : PySem.W.codeIn K cd_law_line "_law_line" = true) (k_law_line : PySem.W.keepIn K (.ref f_law_line) = true)
    {f_law_has : Addr} {oc_law_has kV_law_has dc_law_has pm_law_has cd_law_has ct_law_has : Value} {od_law_has an_law_has : Option Addr} {sl_law_has : Array (Option Value)}
    (a_law_has : PySem.W.nsIn K mainGlobals "_law_has" = some (some (.ref f_law_has))) (l_law_has : K.lookup f_law_has = some ⟨oc_law_has, od_law_has, .func (PySem.W.fnOf "_law_has" "_law_has" (defArgs s_law_has) (defBody s_law_has) (defScope s_law_has) .none kV_law_has dc_law_has pm_law_has an_law_has cd_law_has ct_law_has), sl_law_has⟩) (e_law_has : PySem.W.codeIn K cd_law_has "_law_has" = true) (k_law_has : PySem.W.keepIn K (.ref f_law_has) = true)
    {f_law_asked_right : Addr} {oc_law_asked_right kV_law_asked_right dc_law_asked_right pm_law_asked_right cd_law_asked_right ct_law_asked_right : Value} {od_law_asked_right an_law_asked_right : Option Addr} {sl_law_asked_right : Array (Option Value)}
    (a_law_asked_right : PySem.W.nsIn K mainGlobals "_law_asked_right" = some (some (.ref f_law_asked_right))) (l_law_asked_right : K.lookup f_law_asked_right = some ⟨oc_law_asked_right, od_law_asked_right, .func (PySem.W.fnOf "_law_asked_right" "_law_asked_right" (defArgs s_law_asked_right) (defBody s_law_asked_right) (defScope s_law_asked_right) .none kV_law_asked_right dc_law_asked_right pm_law_asked_right an_law_asked_right cd_law_asked_right ct_law_asked_right), sl_law_asked_right⟩) (e_law_asked_right : PySem.W.codeIn K cd_law_asked_right "_law_asked_right" = true) (k_law_asked_right : PySem.W.keepIn K (.ref f_law_asked_right) = true)
    {f_law_thing : Addr} {oc_law_thing kV_law_thing dc_law_thing pm_law_thing cd_law_thing ct_law_thing : Value} {od_law_thing an_law_thing : Option Addr} {sl_law_thing : Array (Option Value)}
    (a_law_thing : PySem.W.nsIn K mainGlobals "_law_thing" = some (some (.ref f_law_thing))) (l_law_thing : K.lookup f_law_thing = some ⟨oc_law_thing, od_law_thing, .func (PySem.W.fnOf "_law_thing" "_law_thing" (defArgs s_law_thing) (defBody s_law_thing) (defScope s_law_thing) .none kV_law_thing dc_law_thing pm_law_thing an_law_thing cd_law_thing ct_law_thing), sl_law_thing⟩) (e_law_thing : PySem.W.codeIn K cd_law_thing "_law_thing" = true) (k_law_thing : PySem.W.keepIn K (.ref f_law_thing) = true)
    {f_law_right : Addr} {oc_law_right kV_law_right dc_law_right pm_law_right cd_law_right ct_law_right : Value} {od_law_right an_law_right : Option Addr} {sl_law_right : Array (Option Value)}
    (a_law_right : PySem.W.nsIn K mainGlobals "_law_right" = some (some (.ref f_law_right))) (l_law_right : K.lookup f_law_right = some ⟨oc_law_right, od_law_right, .func (PySem.W.fnOf "_law_right" "_law_right" (defArgs s_law_right) (defBody s_law_right) (defScope s_law_right) .none kV_law_right dc_law_right pm_law_right an_law_right cd_law_right ct_law_right), sl_law_right⟩) (e_law_right : PySem.W.codeIn K cd_law_right "_law_right" = true) (k_law_right : PySem.W.keepIn K (.ref f_law_right) = true)
    {f_law : Addr} {oc_law kV_law dc_law pm_law cd_law ct_law : Value} {od_law an_law : Option Addr} {sl_law : Array (Option Value)}
    (a_law : PySem.W.nsIn K mainGlobals "law" = some (some (.ref f_law))) (l_law : K.lookup f_law = some ⟨oc_law, od_law, .func (PySem.W.fnOf "law" "law" (defArgs s_law) (defBody s_law) (defScope s_law) .none kV_law dc_law pm_law an_law cd_law ct_law), sl_law⟩) (e_law : PySem.W.codeIn K cd_law "law" = true) (k_law : PySem.W.keepIn K (.ref f_law) = true)
    {C_Machine : Addr} (a_Machine : PySem.W.nsIn K mainGlobals "Machine" = some (some (.ref C_Machine))) (pg_Machine : PySem.W.plainGet K C_Machine Str.empty = true) (hd_Machine : PySem.W.hasDictIn K C_Machine = true) (po_Machine : PySem.W.plainOver K C_Machine = true) (sa_Machine : PySem.W.findIn K (.ref C_Machine) "__setattr__" = some (some (.builtin "object.__setattr__"))) (mk_Machine : PySem.W.makesIn K C_Machine = true) (kc_Machine : PySem.W.keepIn K (.ref C_Machine) = true)
    (ca_Machine : PySem.W.findIn K (.ref C_Machine) "__class__" = some (some (.builtin "object.__class__"))) (cg_Machine : PySem.W.specialIn K (.builtin "object.__class__") "__get__" = some (some (.builtin "getset_descriptor.__get__"))) (ct_Machine : PySem.W.takesIn K (.builtin "object.__class__") = some true) (ne_Machine : PySem.W.findIn K (.ref C_Machine) "__ne__" = some (some (.builtin "object.__ne__"))) (tt_Machine : PySem.W.typeIn K (.ref C_Machine) = some (.type "type")) (cr_Machine : PySem.W.readsIn K C_Machine (.type "type") = true) (ck_Machine : PySem.W.specialIn K (.ref C_Machine) "__getattribute__" = some (some (.builtin "type.__getattribute__")))
    {C_Sum : Addr} (a_Sum : PySem.W.nsIn K mainGlobals "Sum" = some (some (.ref C_Sum))) (pg_Sum : PySem.W.plainGet K C_Sum Str.empty = true) (hd_Sum : PySem.W.hasDictIn K C_Sum = true) (po_Sum : PySem.W.plainOver K C_Sum = true) (sa_Sum : PySem.W.findIn K (.ref C_Sum) "__setattr__" = some (some (.builtin "object.__setattr__"))) (mk_Sum : PySem.W.makesIn K C_Sum = true) (kc_Sum : PySem.W.keepIn K (.ref C_Sum) = true)
    (ca_Sum : PySem.W.findIn K (.ref C_Sum) "__class__" = some (some (.builtin "object.__class__"))) (cg_Sum : PySem.W.specialIn K (.builtin "object.__class__") "__get__" = some (some (.builtin "getset_descriptor.__get__"))) (ct_Sum : PySem.W.takesIn K (.builtin "object.__class__") = some true) (ne_Sum : PySem.W.findIn K (.ref C_Sum) "__ne__" = some (some (.builtin "object.__ne__"))) (tt_Sum : PySem.W.typeIn K (.ref C_Sum) = some (.type "type")) (cr_Sum : PySem.W.readsIn K C_Sum (.type "type") = true) (ck_Sum : PySem.W.specialIn K (.ref C_Sum) "__getattribute__" = some (some (.builtin "type.__getattribute__")))
    (ns_Sum : PySem.W.mroIn K C_Sum (.type "str") = some false)
    {oc_Sum : Value} {od_Sum : Option Addr} {sl_Sum : Array (Option Value)} {cd_Sum : ClassData} (lk_Sum : K.lookup C_Sum = some ⟨oc_Sum, od_Sum, .cls cd_Sum, sl_Sum⟩) (mo_Sum : cd_Sum.mro = [.ref C_Sum, .type "object"])
    (ni_Sum_and : PySem.W.findIn K (.ref C_Sum) "__iand__" = some none)
    (ni_Sum_or : PySem.W.findIn K (.ref C_Sum) "__ior__" = some none)
    {u_Sum_MOST_PRODUCTS : Tok} (cv_Sum_MOST_PRODUCTS : PySem.W.findCls K (.ref C_Sum) (.type "type") "MOST_PRODUCTS" = some (.val (.int 60 u_Sum_MOST_PRODUCTS)))
    (nf_Sum_own_letters : PySem.W.findIn K (.ref C_Sum) "own_letters" = some none)
    (nf_Sum_own_products : PySem.W.findIn K (.ref C_Sum) "own_products" = some none)
    {t_Sum_MOST_PRODUCTS : Tok} (ka_Sum_MOST_PRODUCTS : PySem.W.findIn K (.ref C_Sum) "MOST_PRODUCTS" = some (some (.int 60 t_Sum_MOST_PRODUCTS))) (kg_Sum_MOST_PRODUCTS : PySem.W.specialIn K (.int 60 t_Sum_MOST_PRODUCTS) "__get__" = some none)
    {f_Sum_init : Addr} {oc_Sum_init kV_Sum_init dc_Sum_init pm_Sum_init cd_Sum_init ct_Sum_init : Value} {od_Sum_init an_Sum_init : Option Addr} {sl_Sum_init : Array (Option Value)}
    (a_Sum_init : PySem.W.findIn K (.ref C_Sum) "__init__" = some (some (.ref f_Sum_init))) (i_Sum_init : PySem.W.isFn K (.ref f_Sum_init) = true)
    (l_Sum_init : K.lookup f_Sum_init = some ⟨oc_Sum_init, od_Sum_init, .func (PySem.W.fnOf "__init__" "Sum.__init__" (defArgs s_Sum_init) (defBody s_Sum_init) (defScope s_Sum_init) .none kV_Sum_init dc_Sum_init pm_Sum_init an_Sum_init cd_Sum_init ct_Sum_init), sl_Sum_init⟩) (e_Sum_init : PySem.W.codeIn K cd_Sum_init "Sum.__init__" = true) (k_Sum_init : PySem.W.keepIn K (.ref f_Sum_init) = true)
    {f_Sum_products : Addr} {oc_Sum_products kV_Sum_products dc_Sum_products pm_Sum_products cd_Sum_products ct_Sum_products : Value} {od_Sum_products an_Sum_products : Option Addr} {sl_Sum_products : Array (Option Value)}
    (a_Sum_products : PySem.W.findIn K (.ref C_Sum) "products" = some (some (.ref f_Sum_products))) (i_Sum_products : PySem.W.isFn K (.ref f_Sum_products) = true)
    (l_Sum_products : K.lookup f_Sum_products = some ⟨oc_Sum_products, od_Sum_products, .func (PySem.W.fnOf "products" "Sum.products" (defArgs s_Sum_products) (defBody s_Sum_products) (defScope s_Sum_products) .none kV_Sum_products dc_Sum_products pm_Sum_products an_Sum_products cd_Sum_products ct_Sum_products), sl_Sum_products⟩) (e_Sum_products : PySem.W.codeIn K cd_Sum_products "Sum.products" = true) (k_Sum_products : PySem.W.keepIn K (.ref f_Sum_products) = true)
    {f_Sum_want_other : Addr} {oc_Sum_want_other kV_Sum_want_other dc_Sum_want_other pm_Sum_want_other cd_Sum_want_other ct_Sum_want_other : Value} {od_Sum_want_other an_Sum_want_other : Option Addr} {sl_Sum_want_other : Array (Option Value)}
    (a_Sum_want_other : PySem.W.findIn K (.ref C_Sum) "want_other" = some (some (.ref f_Sum_want_other))) (i_Sum_want_other : PySem.W.isFn K (.ref f_Sum_want_other) = true)
    (l_Sum_want_other : K.lookup f_Sum_want_other = some ⟨oc_Sum_want_other, od_Sum_want_other, .func (PySem.W.fnOf "want_other" "Sum.want_other" (defArgs s_Sum_want_other) (defBody s_Sum_want_other) (defScope s_Sum_want_other) .none kV_Sum_want_other dc_Sum_want_other pm_Sum_want_other an_Sum_want_other cd_Sum_want_other ct_Sum_want_other), sl_Sum_want_other⟩) (e_Sum_want_other : PySem.W.codeIn K cd_Sum_want_other "Sum.want_other" = true) (k_Sum_want_other : PySem.W.keepIn K (.ref f_Sum_want_other) = true)
    {f_Sum_is_within : Addr} {oc_Sum_is_within kV_Sum_is_within dc_Sum_is_within pm_Sum_is_within cd_Sum_is_within ct_Sum_is_within : Value} {od_Sum_is_within an_Sum_is_within : Option Addr} {sl_Sum_is_within : Array (Option Value)}
    (a_Sum_is_within : PySem.W.findIn K (.ref C_Sum) "is_within" = some (some (.ref f_Sum_is_within))) (i_Sum_is_within : PySem.W.isFn K (.ref f_Sum_is_within) = true)
    (l_Sum_is_within : K.lookup f_Sum_is_within = some ⟨oc_Sum_is_within, od_Sum_is_within, .func (PySem.W.fnOf "is_within" "Sum.is_within" (defArgs s_Sum_is_within) (defBody s_Sum_is_within) (defScope s_Sum_is_within) .none kV_Sum_is_within dc_Sum_is_within pm_Sum_is_within an_Sum_is_within cd_Sum_is_within ct_Sum_is_within), sl_Sum_is_within⟩) (e_Sum_is_within : PySem.W.codeIn K cd_Sum_is_within "Sum.is_within" = true) (k_Sum_is_within : PySem.W.keepIn K (.ref f_Sum_is_within) = true)
    {f_Sum_contains : Addr} {oc_Sum_contains kV_Sum_contains dc_Sum_contains pm_Sum_contains cd_Sum_contains ct_Sum_contains : Value} {od_Sum_contains an_Sum_contains : Option Addr} {sl_Sum_contains : Array (Option Value)}
    (a_Sum_contains : PySem.W.findIn K (.ref C_Sum) "__contains__" = some (some (.ref f_Sum_contains))) (i_Sum_contains : PySem.W.isFn K (.ref f_Sum_contains) = true)
    (l_Sum_contains : K.lookup f_Sum_contains = some ⟨oc_Sum_contains, od_Sum_contains, .func (PySem.W.fnOf "__contains__" "Sum.__contains__" (defArgs s_Sum_contains) (defBody s_Sum_contains) (defScope s_Sum_contains) .none kV_Sum_contains dc_Sum_contains pm_Sum_contains an_Sum_contains cd_Sum_contains ct_Sum_contains), sl_Sum_contains⟩) (e_Sum_contains : PySem.W.codeIn K cd_Sum_contains "Sum.__contains__" = true) (k_Sum_contains : PySem.W.keepIn K (.ref f_Sum_contains) = true)
    {f_Sum_len : Addr} {oc_Sum_len kV_Sum_len dc_Sum_len pm_Sum_len cd_Sum_len ct_Sum_len : Value} {od_Sum_len an_Sum_len : Option Addr} {sl_Sum_len : Array (Option Value)}
    (a_Sum_len : PySem.W.findIn K (.ref C_Sum) "__len__" = some (some (.ref f_Sum_len))) (i_Sum_len : PySem.W.isFn K (.ref f_Sum_len) = true)
    (l_Sum_len : K.lookup f_Sum_len = some ⟨oc_Sum_len, od_Sum_len, .func (PySem.W.fnOf "__len__" "Sum.__len__" (defArgs s_Sum_len) (defBody s_Sum_len) (defScope s_Sum_len) .none kV_Sum_len dc_Sum_len pm_Sum_len an_Sum_len cd_Sum_len ct_Sum_len), sl_Sum_len⟩) (e_Sum_len : PySem.W.codeIn K cd_Sum_len "Sum.__len__" = true) (k_Sum_len : PySem.W.keepIn K (.ref f_Sum_len) = true)
    {f_Sum_and : Addr} {oc_Sum_and kV_Sum_and dc_Sum_and pm_Sum_and cd_Sum_and ct_Sum_and : Value} {od_Sum_and an_Sum_and : Option Addr} {sl_Sum_and : Array (Option Value)}
    (a_Sum_and : PySem.W.findIn K (.ref C_Sum) "__and__" = some (some (.ref f_Sum_and))) (i_Sum_and : PySem.W.isFn K (.ref f_Sum_and) = true)
    (l_Sum_and : K.lookup f_Sum_and = some ⟨oc_Sum_and, od_Sum_and, .func (PySem.W.fnOf "__and__" "Sum.__and__" (defArgs s_Sum_and) (defBody s_Sum_and) (defScope s_Sum_and) .none kV_Sum_and dc_Sum_and pm_Sum_and an_Sum_and cd_Sum_and ct_Sum_and), sl_Sum_and⟩) (e_Sum_and : PySem.W.codeIn K cd_Sum_and "Sum.__and__" = true) (k_Sum_and : PySem.W.keepIn K (.ref f_Sum_and) = true)
    {f_Sum_or : Addr} {oc_Sum_or kV_Sum_or dc_Sum_or pm_Sum_or cd_Sum_or ct_Sum_or : Value} {od_Sum_or an_Sum_or : Option Addr} {sl_Sum_or : Array (Option Value)}
    (a_Sum_or : PySem.W.findIn K (.ref C_Sum) "__or__" = some (some (.ref f_Sum_or))) (i_Sum_or : PySem.W.isFn K (.ref f_Sum_or) = true)
    (l_Sum_or : K.lookup f_Sum_or = some ⟨oc_Sum_or, od_Sum_or, .func (PySem.W.fnOf "__or__" "Sum.__or__" (defArgs s_Sum_or) (defBody s_Sum_or) (defScope s_Sum_or) .none kV_Sum_or dc_Sum_or pm_Sum_or an_Sum_or cd_Sum_or ct_Sum_or), sl_Sum_or⟩) (e_Sum_or : PySem.W.codeIn K cd_Sum_or "Sum.__or__" = true) (k_Sum_or : PySem.W.keepIn K (.ref f_Sum_or) = true)
    {f_Sum_eq : Addr} {oc_Sum_eq kV_Sum_eq dc_Sum_eq pm_Sum_eq cd_Sum_eq ct_Sum_eq : Value} {od_Sum_eq an_Sum_eq : Option Addr} {sl_Sum_eq : Array (Option Value)}
    (a_Sum_eq : PySem.W.findIn K (.ref C_Sum) "__eq__" = some (some (.ref f_Sum_eq))) (i_Sum_eq : PySem.W.isFn K (.ref f_Sum_eq) = true)
    (l_Sum_eq : K.lookup f_Sum_eq = some ⟨oc_Sum_eq, od_Sum_eq, .func (PySem.W.fnOf "__eq__" "Sum.__eq__" (defArgs s_Sum_eq) (defBody s_Sum_eq) (defScope s_Sum_eq) .none kV_Sum_eq dc_Sum_eq pm_Sum_eq an_Sum_eq cd_Sum_eq ct_Sum_eq), sl_Sum_eq⟩) (e_Sum_eq : PySem.W.codeIn K cd_Sum_eq "Sum.__eq__" = true) (k_Sum_eq : PySem.W.keepIn K (.ref f_Sum_eq) = true)
    {f_Sum_repr : Addr} {oc_Sum_repr kV_Sum_repr dc_Sum_repr pm_Sum_repr cd_Sum_repr ct_Sum_repr : Value} {od_Sum_repr an_Sum_repr : Option Addr} {sl_Sum_repr : Array (Option Value)}
    (a_Sum_repr : PySem.W.findIn K (.ref C_Sum) "__repr__" = some (some (.ref f_Sum_repr))) (i_Sum_repr : PySem.W.isFn K (.ref f_Sum_repr) = true)
    (l_Sum_repr : K.lookup f_Sum_repr = some ⟨oc_Sum_repr, od_Sum_repr, .func (PySem.W.fnOf "__repr__" "Sum.__repr__" (defArgs s_Sum_repr) (defBody s_Sum_repr) (defScope s_Sum_repr) .none kV_Sum_repr dc_Sum_repr pm_Sum_repr an_Sum_repr cd_Sum_repr ct_Sum_repr), sl_Sum_repr⟩) (e_Sum_repr : PySem.W.codeIn K cd_Sum_repr "Sum.__repr__" = true) (k_Sum_repr : PySem.W.keepIn K (.ref f_Sum_repr) = true)
    {f_Sum_letters : Addr} {oc_Sum_letters kV_Sum_letters dc_Sum_letters pm_Sum_letters cd_Sum_letters ct_Sum_letters : Value} {od_Sum_letters an_Sum_letters : Option Addr} {sl_Sum_letters : Array (Option Value)}
    {p_Sum_letters : Addr} {rest_Sum_letters : List Value} (a_Sum_letters : PySem.W.findIn K (.ref C_Sum) "letters" = some (some (.ref p_Sum_letters))) (pg_Sum_letters : PySem.W.specialIn K (.ref p_Sum_letters) "__get__" = some (some (.builtin "property.__get__"))) (pt_Sum_letters : PySem.W.takesIn K (.ref p_Sum_letters) = some true) (pr_Sum_letters : PySem.W.recIn K p_Sum_letters "property" = some (.ref f_Sum_letters :: rest_Sum_letters))
    (l_Sum_letters : K.lookup f_Sum_letters = some ⟨oc_Sum_letters, od_Sum_letters, .func (PySem.W.fnOf "letters" "Sum.letters" (defArgs s_Sum_letters) (defBody s_Sum_letters) (defScope s_Sum_letters) .none kV_Sum_letters dc_Sum_letters pm_Sum_letters an_Sum_letters cd_Sum_letters ct_Sum_letters), sl_Sum_letters⟩) (e_Sum_letters : PySem.W.codeIn K cd_Sum_letters "Sum.letters" = true) (k_Sum_letters : PySem.W.keepIn K (.ref f_Sum_letters) = true)
    {C_MachineReader : Addr} (a_MachineReader : PySem.W.nsIn K mainGlobals "MachineReader" = some (some (.ref C_MachineReader))) (pg_MachineReader : PySem.W.plainGet K C_MachineReader Str.empty = true) (hd_MachineReader : PySem.W.hasDictIn K C_MachineReader = true) (po_MachineReader : PySem.W.plainOver K C_MachineReader = true) (sa_MachineReader : PySem.W.findIn K (.ref C_MachineReader) "__setattr__" = some (some (.builtin "object.__setattr__"))) (mk_MachineReader : PySem.W.makesIn K C_MachineReader = true) (kc_MachineReader : PySem.W.keepIn K (.ref C_MachineReader) = true)
    (ca_MachineReader : PySem.W.findIn K (.ref C_MachineReader) "__class__" = some (some (.builtin "object.__class__"))) (cg_MachineReader : PySem.W.specialIn K (.builtin "object.__class__") "__get__" = some (some (.builtin "getset_descriptor.__get__"))) (ct_MachineReader : PySem.W.takesIn K (.builtin "object.__class__") = some true) (ne_MachineReader : PySem.W.findIn K (.ref C_MachineReader) "__ne__" = some (some (.builtin "object.__ne__"))) (tt_MachineReader : PySem.W.typeIn K (.ref C_MachineReader) = some (.type "type")) (cr_MachineReader : PySem.W.readsIn K C_MachineReader (.type "type") = true) (ck_MachineReader : PySem.W.specialIn K (.ref C_MachineReader) "__getattribute__" = some (some (.builtin "type.__getattribute__")))
    (nf_MachineReader_own_letters : PySem.W.findIn K (.ref C_MachineReader) "own_letters" = some none)
    (nf_MachineReader_own_rows : PySem.W.findIn K (.ref C_MachineReader) "own_rows" = some none)
    (nf_MachineReader_own_kinds : PySem.W.findIn K (.ref C_MachineReader) "own_kinds" = some none)
    {f_MachineReader_init : Addr} {oc_MachineReader_init kV_MachineReader_init dc_MachineReader_init pm_MachineReader_init cd_MachineReader_init ct_MachineReader_init : Value} {od_MachineReader_init an_MachineReader_init : Option Addr} {sl_MachineReader_init : Array (Option Value)}
    (a_MachineReader_init : PySem.W.findIn K (.ref C_MachineReader) "__init__" = some (some (.ref f_MachineReader_init))) (i_MachineReader_init : PySem.W.isFn K (.ref f_MachineReader_init) = true)
    (l_MachineReader_init : K.lookup f_MachineReader_init = some ⟨oc_MachineReader_init, od_MachineReader_init, .func (PySem.W.fnOf "__init__" "MachineReader.__init__" (defArgs s_MachineReader_init) (defBody s_MachineReader_init) (defScope s_MachineReader_init) .none kV_MachineReader_init dc_MachineReader_init pm_MachineReader_init an_MachineReader_init cd_MachineReader_init ct_MachineReader_init), sl_MachineReader_init⟩) (e_MachineReader_init : PySem.W.codeIn K cd_MachineReader_init "MachineReader.__init__" = true) (k_MachineReader_init : PySem.W.keepIn K (.ref f_MachineReader_init) = true)
    {f_MachineReader_take : Addr} {oc_MachineReader_take kV_MachineReader_take dc_MachineReader_take pm_MachineReader_take cd_MachineReader_take ct_MachineReader_take : Value} {od_MachineReader_take an_MachineReader_take : Option Addr} {sl_MachineReader_take : Array (Option Value)}
    (a_MachineReader_take : PySem.W.findIn K (.ref C_MachineReader) "take" = some (some (.ref f_MachineReader_take))) (i_MachineReader_take : PySem.W.isFn K (.ref f_MachineReader_take) = true)
    (l_MachineReader_take : K.lookup f_MachineReader_take = some ⟨oc_MachineReader_take, od_MachineReader_take, .func (PySem.W.fnOf "take" "MachineReader.take" (defArgs s_MachineReader_take) (defBody s_MachineReader_take) (defScope s_MachineReader_take) .none kV_MachineReader_take dc_MachineReader_take pm_MachineReader_take an_MachineReader_take cd_MachineReader_take ct_MachineReader_take), sl_MachineReader_take⟩) (e_MachineReader_take : PySem.W.codeIn K cd_MachineReader_take "MachineReader.take" = true) (k_MachineReader_take : PySem.W.keepIn K (.ref f_MachineReader_take) = true)
    {f_MachineReader_take_place : Addr} {oc_MachineReader_take_place kV_MachineReader_take_place dc_MachineReader_take_place pm_MachineReader_take_place cd_MachineReader_take_place ct_MachineReader_take_place : Value} {od_MachineReader_take_place an_MachineReader_take_place : Option Addr} {sl_MachineReader_take_place : Array (Option Value)}
    (a_MachineReader_take_place : PySem.W.findIn K (.ref C_MachineReader) "take_place" = some (some (.ref f_MachineReader_take_place))) (i_MachineReader_take_place : PySem.W.isFn K (.ref f_MachineReader_take_place) = true)
    (l_MachineReader_take_place : K.lookup f_MachineReader_take_place = some ⟨oc_MachineReader_take_place, od_MachineReader_take_place, .func (PySem.W.fnOf "take_place" "MachineReader.take_place" (defArgs s_MachineReader_take_place) (defBody s_MachineReader_take_place) (defScope s_MachineReader_take_place) .none kV_MachineReader_take_place dc_MachineReader_take_place pm_MachineReader_take_place an_MachineReader_take_place cd_MachineReader_take_place ct_MachineReader_take_place), sl_MachineReader_take_place⟩) (e_MachineReader_take_place : PySem.W.codeIn K cd_MachineReader_take_place "MachineReader.take_place" = true) (k_MachineReader_take_place : PySem.W.keepIn K (.ref f_MachineReader_take_place) = true)
    {f_MachineReader_is_lacking : Addr} {oc_MachineReader_is_lacking kV_MachineReader_is_lacking dc_MachineReader_is_lacking pm_MachineReader_is_lacking cd_MachineReader_is_lacking ct_MachineReader_is_lacking : Value} {od_MachineReader_is_lacking an_MachineReader_is_lacking : Option Addr} {sl_MachineReader_is_lacking : Array (Option Value)}
    (a_MachineReader_is_lacking : PySem.W.findIn K (.ref C_MachineReader) "is_lacking" = some (some (.ref f_MachineReader_is_lacking))) (i_MachineReader_is_lacking : PySem.W.isFn K (.ref f_MachineReader_is_lacking) = true)
    (l_MachineReader_is_lacking : K.lookup f_MachineReader_is_lacking = some ⟨oc_MachineReader_is_lacking, od_MachineReader_is_lacking, .func (PySem.W.fnOf "is_lacking" "MachineReader.is_lacking" (defArgs s_MachineReader_is_lacking) (defBody s_MachineReader_is_lacking) (defScope s_MachineReader_is_lacking) .none kV_MachineReader_is_lacking dc_MachineReader_is_lacking pm_MachineReader_is_lacking an_MachineReader_is_lacking cd_MachineReader_is_lacking ct_MachineReader_is_lacking), sl_MachineReader_is_lacking⟩) (e_MachineReader_is_lacking : PySem.W.codeIn K cd_MachineReader_is_lacking "MachineReader.is_lacking" = true) (k_MachineReader_is_lacking : PySem.W.keepIn K (.ref f_MachineReader_is_lacking) = true)
    {f_MachineReader_made : Addr} {oc_MachineReader_made kV_MachineReader_made dc_MachineReader_made pm_MachineReader_made cd_MachineReader_made ct_MachineReader_made : Value} {od_MachineReader_made an_MachineReader_made : Option Addr} {sl_MachineReader_made : Array (Option Value)}
    (a_MachineReader_made : PySem.W.findIn K (.ref C_MachineReader) "made" = some (some (.ref f_MachineReader_made))) (i_MachineReader_made : PySem.W.isFn K (.ref f_MachineReader_made) = true)
    (l_MachineReader_made : K.lookup f_MachineReader_made = some ⟨oc_MachineReader_made, od_MachineReader_made, .func (PySem.W.fnOf "made" "MachineReader.made" (defArgs s_MachineReader_made) (defBody s_MachineReader_made) (defScope s_MachineReader_made) .none kV_MachineReader_made dc_MachineReader_made pm_MachineReader_made an_MachineReader_made cd_MachineReader_made ct_MachineReader_made), sl_MachineReader_made⟩) (e_MachineReader_made : PySem.W.codeIn K cd_MachineReader_made "MachineReader.made" = true) (k_MachineReader_made : PySem.W.keepIn K (.ref f_MachineReader_made) = true)
    {C_SumReader : Addr} (a_SumReader : PySem.W.nsIn K mainGlobals "SumReader" = some (some (.ref C_SumReader))) (pg_SumReader : PySem.W.plainGet K C_SumReader Str.empty = true) (hd_SumReader : PySem.W.hasDictIn K C_SumReader = true) (po_SumReader : PySem.W.plainOver K C_SumReader = true) (sa_SumReader : PySem.W.findIn K (.ref C_SumReader) "__setattr__" = some (some (.builtin "object.__setattr__"))) (mk_SumReader : PySem.W.makesIn K C_SumReader = true) (kc_SumReader : PySem.W.keepIn K (.ref C_SumReader) = true)
    (ca_SumReader : PySem.W.findIn K (.ref C_SumReader) "__class__" = some (some (.builtin "object.__class__"))) (cg_SumReader : PySem.W.specialIn K (.builtin "object.__class__") "__get__" = some (some (.builtin "getset_descriptor.__get__"))) (ct_SumReader : PySem.W.takesIn K (.builtin "object.__class__") = some true) (ne_SumReader : PySem.W.findIn K (.ref C_SumReader) "__ne__" = some (some (.builtin "object.__ne__"))) (tt_SumReader : PySem.W.typeIn K (.ref C_SumReader) = some (.type "type")) (cr_SumReader : PySem.W.readsIn K C_SumReader (.type "type") = true) (ck_SumReader : PySem.W.specialIn K (.ref C_SumReader) "__getattribute__" = some (some (.builtin "type.__getattribute__")))
    (nf_SumReader_own_letters : PySem.W.findIn K (.ref C_SumReader) "own_letters" = some none)
    (nf_SumReader_own_told : PySem.W.findIn K (.ref C_SumReader) "own_told" = some none)
    {f_SumReader_init : Addr} {oc_SumReader_init kV_SumReader_init dc_SumReader_init pm_SumReader_init cd_SumReader_init ct_SumReader_init : Value} {od_SumReader_init an_SumReader_init : Option Addr} {sl_SumReader_init : Array (Option Value)}
    (a_SumReader_init : PySem.W.findIn K (.ref C_SumReader) "__init__" = some (some (.ref f_SumReader_init))) (i_SumReader_init : PySem.W.isFn K (.ref f_SumReader_init) = true)
    (l_SumReader_init : K.lookup f_SumReader_init = some ⟨oc_SumReader_init, od_SumReader_init, .func (PySem.W.fnOf "__init__" "SumReader.__init__" (defArgs s_SumReader_init) (defBody s_SumReader_init) (defScope s_SumReader_init) .none kV_SumReader_init dc_SumReader_init pm_SumReader_init an_SumReader_init cd_SumReader_init ct_SumReader_init), sl_SumReader_init⟩) (e_SumReader_init : PySem.W.codeIn K cd_SumReader_init "SumReader.__init__" = true) (k_SumReader_init : PySem.W.keepIn K (.ref f_SumReader_init) = true)
    {f_SumReader_take : Addr} {oc_SumReader_take kV_SumReader_take dc_SumReader_take pm_SumReader_take cd_SumReader_take ct_SumReader_take : Value} {od_SumReader_take an_SumReader_take : Option Addr} {sl_SumReader_take : Array (Option Value)}
    (a_SumReader_take : PySem.W.findIn K (.ref C_SumReader) "take" = some (some (.ref f_SumReader_take))) (i_SumReader_take : PySem.W.isFn K (.ref f_SumReader_take) = true)
    (l_SumReader_take : K.lookup f_SumReader_take = some ⟨oc_SumReader_take, od_SumReader_take, .func (PySem.W.fnOf "take" "SumReader.take" (defArgs s_SumReader_take) (defBody s_SumReader_take) (defScope s_SumReader_take) .none kV_SumReader_take dc_SumReader_take pm_SumReader_take an_SumReader_take cd_SumReader_take ct_SumReader_take), sl_SumReader_take⟩) (e_SumReader_take : PySem.W.codeIn K cd_SumReader_take "SumReader.take" = true) (k_SumReader_take : PySem.W.keepIn K (.ref f_SumReader_take) = true)
    {f_SumReader_take_product : Addr} {oc_SumReader_take_product kV_SumReader_take_product dc_SumReader_take_product pm_SumReader_take_product cd_SumReader_take_product ct_SumReader_take_product : Value} {od_SumReader_take_product an_SumReader_take_product : Option Addr} {sl_SumReader_take_product : Array (Option Value)}
    (a_SumReader_take_product : PySem.W.findIn K (.ref C_SumReader) "take_product" = some (some (.ref f_SumReader_take_product))) (i_SumReader_take_product : PySem.W.isFn K (.ref f_SumReader_take_product) = true)
    (l_SumReader_take_product : K.lookup f_SumReader_take_product = some ⟨oc_SumReader_take_product, od_SumReader_take_product, .func (PySem.W.fnOf "take_product" "SumReader.take_product" (defArgs s_SumReader_take_product) (defBody s_SumReader_take_product) (defScope s_SumReader_take_product) .none kV_SumReader_take_product dc_SumReader_take_product pm_SumReader_take_product an_SumReader_take_product cd_SumReader_take_product ct_SumReader_take_product), sl_SumReader_take_product⟩) (e_SumReader_take_product : PySem.W.codeIn K cd_SumReader_take_product "SumReader.take_product" = true) (k_SumReader_take_product : PySem.W.keepIn K (.ref f_SumReader_take_product) = true)
    {f_SumReader_is_lacking : Addr} {oc_SumReader_is_lacking kV_SumReader_is_lacking dc_SumReader_is_lacking pm_SumReader_is_lacking cd_SumReader_is_lacking ct_SumReader_is_lacking : Value} {od_SumReader_is_lacking an_SumReader_is_lacking : Option Addr} {sl_SumReader_is_lacking : Array (Option Value)}
    (a_SumReader_is_lacking : PySem.W.findIn K (.ref C_SumReader) "is_lacking" = some (some (.ref f_SumReader_is_lacking))) (i_SumReader_is_lacking : PySem.W.isFn K (.ref f_SumReader_is_lacking) = true)
    (l_SumReader_is_lacking : K.lookup f_SumReader_is_lacking = some ⟨oc_SumReader_is_lacking, od_SumReader_is_lacking, .func (PySem.W.fnOf "is_lacking" "SumReader.is_lacking" (defArgs s_SumReader_is_lacking) (defBody s_SumReader_is_lacking) (defScope s_SumReader_is_lacking) .none kV_SumReader_is_lacking dc_SumReader_is_lacking pm_SumReader_is_lacking an_SumReader_is_lacking cd_SumReader_is_lacking ct_SumReader_is_lacking), sl_SumReader_is_lacking⟩) (e_SumReader_is_lacking : PySem.W.codeIn K cd_SumReader_is_lacking "SumReader.is_lacking" = true) (k_SumReader_is_lacking : PySem.W.keepIn K (.ref f_SumReader_is_lacking) = true)
    {f_SumReader_made : Addr} {oc_SumReader_made kV_SumReader_made dc_SumReader_made pm_SumReader_made cd_SumReader_made ct_SumReader_made : Value} {od_SumReader_made an_SumReader_made : Option Addr} {sl_SumReader_made : Array (Option Value)}
    (a_SumReader_made : PySem.W.findIn K (.ref C_SumReader) "made" = some (some (.ref f_SumReader_made))) (i_SumReader_made : PySem.W.isFn K (.ref f_SumReader_made) = true)
    (l_SumReader_made : K.lookup f_SumReader_made = some ⟨oc_SumReader_made, od_SumReader_made, .func (PySem.W.fnOf "made" "SumReader.made" (defArgs s_SumReader_made) (defBody s_SumReader_made) (defScope s_SumReader_made) .none kV_SumReader_made dc_SumReader_made pm_SumReader_made an_SumReader_made cd_SumReader_made ct_SumReader_made), sl_SumReader_made⟩) (e_SumReader_made : PySem.W.codeIn K cd_SumReader_made "SumReader.made" = true) (k_SumReader_made : PySem.W.keepIn K (.ref f_SumReader_made) = true)
    {C_InvalidRow fi_InvalidRow pr_InvalidRow N_InvalidRow cda_InvalidRow cc_InvalidRow : Addr} {nm_InvalidRow q_InvalidRow : Str} {bs_InvalidRow : List Value} {sn_InvalidRow : List Str} {sub_InvalidRow : List Value} {ab_InvalidRow : Bool} {col_InvalidRow : Option Bool} {dd_InvalidRow : Option Addr} {k0_InvalidRow k1_InvalidRow k2_InvalidRow k3_InvalidRow k5_InvalidRow : Option Value} {kV_InvalidRow doc_InvalidRow pm_InvalidRow ct_InvalidRow oc_InvalidRow ccl_InvalidRow cl_InvalidRow : Value} {an_InvalidRow od_InvalidRow cdd_InvalidRow cld_InvalidRow : Option Addr} {osl_InvalidRow ccs_InvalidRow csl_InvalidRow : Array (Option Value)} {vs_InvalidRow : Array Value} {file_InvalidRow : Str} {tf_InvalidRow : Tok}
    (a_InvalidRow : PySem.W.nsIn K mainGlobals "InvalidRow" = some (some (.ref C_InvalidRow))) (lc_InvalidRow : K.lookup C_InvalidRow = some (excClassObj nm_InvalidRow q_InvalidRow C_InvalidRow N_InvalidRow bs_InvalidRow (.ref pr_InvalidRow :: [.type "ValueError", .type "Exception", .type "BaseException", .type "object"]) true sn_InvalidRow sub_InvalidRow ab_InvalidRow col_InvalidRow dd_InvalidRow k0_InvalidRow k1_InvalidRow k2_InvalidRow k3_InvalidRow k5_InvalidRow "ValueError.__new__"))
    (ii_InvalidRow : PySem.W.findIn K (.ref C_InvalidRow) "__init__" = some (some (.ref fi_InvalidRow))) (li_InvalidRow : K.lookup fi_InvalidRow = some ⟨oc_InvalidRow, od_InvalidRow, .func (PySem.W.ksFn "__init__" "InvalidRow.__init__" (defArgs s_InvalidRow_init) (defBody s_InvalidRow_init) (defScope s_InvalidRow_init) .none kV_InvalidRow doc_InvalidRow pm_InvalidRow an_InvalidRow (.ref cda_InvalidRow) ct_InvalidRow cc_InvalidRow), osl_InvalidRow⟩) (ei_InvalidRow : PySem.W.codeIn K (.ref cda_InvalidRow) "InvalidRow.__init__" = true)
    (lk_InvalidRow : K.lookup cda_InvalidRow = some ⟨ccl_InvalidRow, cdd_InvalidRow, .fields vs_InvalidRow, ccs_InvalidRow⟩) (v2_InvalidRow : vs_InvalidRow[2]? = some (.str file_InvalidRow tf_InvalidRow)) (fl_InvalidRow : ((PW.main.file : Str) == file_InvalidRow) = true) (lcc_InvalidRow : K.lookup cc_InvalidRow = some ⟨cl_InvalidRow, cld_InvalidRow, .cell (some (.ref C_InvalidRow)), csl_InvalidRow⟩)
    (su_InvalidRow : PySem.W.ks_superIn K C_InvalidRow C_InvalidRow "__init__" = some (some (.builtin "ValueError.__init__"))) (se_InvalidRow : PySem.W.mroIn K C_InvalidRow (.ref C_InvalidRow) = some true) (sb_InvalidRow : PySem.W.subIn K (.ref C_InvalidRow) (.type "ValueError") = some true) (op_InvalidRow : PySem.W.nsIn K cStatics "thirdparty.any" = some none) (tp_InvalidRow : (PW.main.scope.names.lookup ("super" : Str)).isSome = false)
    (sa_InvalidRow : PySem.W.findIn K (.ref C_InvalidRow) "__setattr__" = some (some (.builtin "object.__setattr__"))) (ti_InvalidRow : PySem.W.typeIn K (.ref fi_InvalidRow) = some (.type "function")) (kc_InvalidRow : PySem.W.keepIn K (.ref C_InvalidRow) = true) (ex_InvalidRow : PySem.W.subIn K (.ref C_InvalidRow) (.type "BaseException") = some true) (ty_InvalidRow : PySem.W.typeIn K (.ref C_InvalidRow) = some (.type "type"))
    (ga_InvalidRow : PySem.W.findIn K (.ref C_InvalidRow) "__getattribute__" = some (some (.builtin "BaseException.__getattribute__"))) (gg_InvalidRow : PySem.W.findIn K (.ref C_InvalidRow) "__getattr__" = some none) (hdc_InvalidRow : PySem.W.hasDictIn K C_InvalidRow = true) (ss_InvalidRow : PySem.W.subIn K (.ref C_InvalidRow) (.ref C_InvalidRow) = some true)
    (nf_InvalidRow_row : PySem.W.findIn K (.ref C_InvalidRow) "row" = some none)
    {f_Sum_whole : Addr} {oc_Sum_whole kV_Sum_whole dc_Sum_whole pm_Sum_whole cd_Sum_whole ct_Sum_whole : Value} {od_Sum_whole an_Sum_whole : Option Addr} {sl_Sum_whole : Array (Option Value)}
    {p_Sum_whole : Addr} {rest_Sum_whole : List Value} (a_Sum_whole : PySem.W.findCls K (.ref C_Sum) (.type "type") "whole" = some (.get (.builtin "staticmethod.__get__") (.ref p_Sum_whole) .none (.ref C_Sum))) (pr_Sum_whole : PySem.W.recIn K p_Sum_whole "staticmethod" = some (.ref f_Sum_whole :: rest_Sum_whole))
    (l_Sum_whole : K.lookup f_Sum_whole = some ⟨oc_Sum_whole, od_Sum_whole, .func (PySem.W.fnOf "whole" "Sum.whole" (defArgs s_Sum_whole) (defBody s_Sum_whole) (defScope s_Sum_whole) .none kV_Sum_whole dc_Sum_whole pm_Sum_whole an_Sum_whole cd_Sum_whole ct_Sum_whole), sl_Sum_whole⟩) (e_Sum_whole : PySem.W.codeIn K cd_Sum_whole "Sum.whole" = true) (k_Sum_whole : PySem.W.keepIn K (.ref f_Sum_whole) = true)
    (xa_InvalidRow : PySem.W.findIn K (.ref C_InvalidRow) "__class__" = some (some (.builtin "object.__class__"))) (xn_InvalidRow : PySem.W.specialIn K (.builtin "object.__class__") "__get__" = some (some (.builtin "getset_descriptor.__get__"))) (xt_InvalidRow : PySem.W.takesIn K (.builtin "object.__class__") = some true) (xm_InvalidRow : PySem.W.mroIn K C_InvalidRow (.type "object") = some true)
    {C_PartsError : Addr} (a_PartsError : PySem.W.nsIn K mainGlobals "PartsError" = some (some (.ref C_PartsError))) (hd_PartsError : PySem.W.hasDictIn K C_PartsError = true) (tt_PartsError : PySem.W.typeIn K (.ref C_PartsError) = some (.type "type"))
    (su_InvalidRow_PartsError : PySem.W.subIn K (.ref C_InvalidRow) (.ref C_PartsError) = some true)
    (su_InvalidRow_ValueError : PySem.W.subIn K (.ref C_InvalidRow) (.type "ValueError") = some true)
    (z_ValueError : PySem.W.nsIn K mainGlobals "ValueError" = some none)
    (z_abs : PySem.W.nsIn K mainGlobals "abs" = some none)
    (z_all : PySem.W.nsIn K mainGlobals "all" = some none)
    (z_any : PySem.W.nsIn K mainGlobals "any" = some none)
    (z_bool : PySem.W.nsIn K mainGlobals "bool" = some none)
    (z_dict : PySem.W.nsIn K mainGlobals "dict" = some none)
    (z_divmod : PySem.W.nsIn K mainGlobals "divmod" = some none)
    (z_enumerate : PySem.W.nsIn K mainGlobals "enumerate" = some none)
    (z_int : PySem.W.nsIn K mainGlobals "int" = some none)
    (z_isinstance : PySem.W.nsIn K mainGlobals "isinstance" = some none)
    (z_len : PySem.W.nsIn K mainGlobals "len" = some none)
    (z_list : PySem.W.nsIn K mainGlobals "list" = some none)
    (z_max : PySem.W.nsIn K mainGlobals "max" = some none)
    (z_min : PySem.W.nsIn K mainGlobals "min" = some none)
    (z_ord : PySem.W.nsIn K mainGlobals "ord" = some none)
    (z_property : PySem.W.nsIn K mainGlobals "property" = some none)
    (z_range : PySem.W.nsIn K mainGlobals "range" = some none)
    (z_repr : PySem.W.nsIn K mainGlobals "repr" = some none)
    (z_set : PySem.W.nsIn K mainGlobals "set" = some none)
    (z_sorted : PySem.W.nsIn K mainGlobals "sorted" = some none)
    (z_str : PySem.W.nsIn K mainGlobals "str" = some none)
    (z_super : PySem.W.nsIn K mainGlobals "super" = some none)
    (z_tuple : PySem.W.nsIn K mainGlobals "tuple" = some none)
    (z_zip : PySem.W.nsIn K mainGlobals "zip" = some none)
    {t_SMALL_basics : Tok} (y_SMALL_basics : PySem.W.nsIn K mainGlobals "SMALL_basics" = some (some (.str "abcdefghijklmnopqrstuvwxyz" t_SMALL_basics)))
    {t_MOST_LETTERS : Tok} (y_MOST_LETTERS : PySem.W.nsIn K mainGlobals "MOST_LETTERS" = some (some (.int 3 t_MOST_LETTERS)))
    {t_SMALL_products : Tok} (y_SMALL_products : PySem.W.nsIn K mainGlobals "SMALL_products" = some (some (.str "abcdefghijklmnopqrstuvwxyz" t_SMALL_products)))
    {t_STAR : Tok} (y_STAR : PySem.W.nsIn K mainGlobals "STAR" = some (some (.str "*" t_STAR)))
    {t_MOST_IN_STAR : Tok} (y_MOST_IN_STAR : PySem.W.nsIn K mainGlobals "MOST_IN_STAR" = some (some (.int 3 t_MOST_IN_STAR)))
    {t_MOST_PIECES : Tok} (y_MOST_PIECES : PySem.W.nsIn K mainGlobals "MOST_PIECES" = some (some (.int 12 t_MOST_PIECES)))
    {t_LOST : Tok} (y_LOST : PySem.W.nsIn K mainGlobals "LOST" = some (some (.int (-1) t_LOST)))
    {t_MOST_PARTS_LETTERS : Tok} (y_MOST_PARTS_LETTERS : PySem.W.nsIn K mainGlobals "MOST_PARTS_LETTERS" = some (some (.int 60 t_MOST_PARTS_LETTERS)))
    {t_MOST_TEXTS : Tok} (y_MOST_TEXTS : PySem.W.nsIn K mainGlobals "MOST_TEXTS" = some (some (.int 8 t_MOST_TEXTS)))
    {t_MOST_WITHOUT_LETTERS : Tok} (y_MOST_WITHOUT_LETTERS : PySem.W.nsIn K mainGlobals "MOST_WITHOUT_LETTERS" = some (some (.int 8 t_MOST_WITHOUT_LETTERS)))
    {t_DIGITS : Tok} (y_DIGITS : PySem.W.nsIn K mainGlobals "DIGITS" = some (some (.str "0123456789" t_DIGITS)))
    {A_KINDS : Addr} (a_KINDS : PySem.W.nsIn K mainGlobals "KINDS" = some (some (.ref A_KINDS)))
    : ∃ T : All K mg, T.f_law = f_law ∧ T.d_law_right.code = cd_law_right := by
  have F_is_list := fun_mk (st := s_is_list) l_is_list e_is_list k_is_list
  have B_is_list := F_is_list.binds (ps := ["value"]) fun _ _ _ _ _ _ us hl => match us, hl with | [_], _ => rfl
  have F_is_text := fun_mk (st := s_is_text) l_is_text e_is_text k_is_text
  have B_is_text := F_is_text.binds (ps := ["value"]) fun _ _ _ _ _ _ us hl => match us, hl with | [_], _ => rfl
  have F_are_letters := fun_mk (st := s_are_letters) l_are_letters e_are_letters k_are_letters
  have B_are_letters := F_are_letters.binds (ps := ["value"]) fun _ _ _ _ _ _ us hl => match us, hl with | [_], _ => rfl
  have F_is_text_over := fun_mk (st := s_is_text_over) l_is_text_over e_is_text_over k_is_text_over
  have B_is_text_over := F_is_text_over.binds (ps := ["letters", "value"]) fun _ _ _ _ _ _ us hl => match us, hl with | [_, _], _ => rfl
  have F_want_few := fun_mk (st := s_want_few) l_want_few e_want_few k_want_few
  have B_want_few := F_want_few.binds (ps := ["what", "many", "limit"]) fun _ _ _ _ _ _ us hl => match us, hl with | [_, _, _], _ => rfl
  have F_want_same := fun_mk (st := s_want_same) l_want_same e_want_same k_want_same
  have B_want_same := F_want_same.binds (ps := ["one", "other"]) fun _ _ _ _ _ _ us hl => match us, hl with | [_, _], _ => rfl
  have F_is_star := fun_mk (st := s_is_star) l_is_star e_is_star k_is_star
  have B_is_star := F_is_star.binds (ps := ["piece"]) fun _ _ _ _ _ _ us hl => match us, hl with | [_], _ => rfl
  have F_letters_in := fun_mk (st := s_letters_in) l_letters_in e_letters_in k_letters_in
  have B_letters_in := F_letters_in.binds (ps := ["piece"]) fun _ _ _ _ _ _ us hl => match us, hl with | [_], _ => rfl
  have F_are_rising := fun_mk (st := s_are_rising) l_are_rising e_are_rising k_are_rising
  have B_are_rising := F_are_rising.binds (ps := ["letters"]) fun _ _ _ _ _ _ us hl => match us, hl with | [_], _ => rfl
  have F_is_piece := fun_mk (st := s_is_piece) l_is_piece e_is_piece k_is_piece
  have B_is_piece := F_is_piece.binds (ps := ["value"]) fun _ _ _ _ _ _ us hl => match us, hl with | [_], _ => rfl
  have F_is_product := fun_mk (st := s_is_product) l_is_product e_is_product k_is_product
  have B_is_product := F_is_product.binds (ps := ["value"]) fun _ _ _ _ _ _ us hl => match us, hl with | [_], _ => rfl
  have F_is_product_over := fun_mk (st := s_is_product_over) l_is_product_over e_is_product_over k_is_product_over
  have B_is_product_over := F_is_product_over.binds (ps := ["letters", "value"]) fun _ _ _ _ _ _ us hl => match us, hl with | [_, _], _ => rfl
  have F_holds := fun_mk (st := s_holds) l_holds e_holds k_holds
  have B_holds := F_holds.binds (ps := ["piece", "other"]) fun _ _ _ _ _ _ us hl => match us, hl with | [_, _], _ => rfl
  have F_place_behind := fun_mk (st := s_place_behind) l_place_behind e_place_behind k_place_behind
  have B_place_behind := F_place_behind.binds (ps := ["product", "place", "piece"]) fun _ _ _ _ _ _ us hl => match us, hl with | [_, _, _], _ => rfl
  have F_place_by := fun_mk (st := s_place_by) l_place_by e_place_by k_place_by
  have B_place_by := F_place_by.binds (ps := ["product", "place", "pieces"]) fun _ _ _ _ _ _ us hl => match us, hl with | [_, _, _], _ => rfl
  have F_has_text := fun_mk (st := s_has_text) l_has_text e_has_text k_has_text
  have B_has_text := F_has_text.binds (ps := ["product", "text"]) fun _ _ _ _ _ _ us hl => match us, hl with | [_, _], _ => rfl
  have F_lies_within := fun_mk (st := s_lies_within) l_lies_within e_lies_within k_lies_within
  have B_lies_within := F_lies_within.binds (ps := ["one", "other"]) fun _ _ _ _ _ _ us hl => match us, hl with | [_, _], _ => rfl
  have F_reduced_of := fun_mk (st := s_reduced_of) l_reduced_of e_reduced_of k_reduced_of
  have B_reduced_of := F_reduced_of.binds (ps := ["product"]) fun _ _ _ _ _ _ us hl => match us, hl with | [_], _ => rfl
  have F_kept_of := fun_mk (st := s_kept_of) l_kept_of e_kept_of k_kept_of
  have B_kept_of := F_kept_of.binds (ps := ["products"]) fun _ _ _ _ _ _ us hl => match us, hl with | [_], _ => rfl
  have F_met_behind := fun_mk (st := s_met_behind) l_met_behind e_met_behind k_met_behind
  have B_met_behind := F_met_behind.binds (ps := ["one", "other", "laters"]) fun _ _ _ _ _ _ us hl => match us, hl with | [_, _, _], _ => rfl
  have F_meet_of := fun_mk (st := s_meet_of) l_meet_of e_meet_of k_meet_of
  have B_meet_of := F_meet_of.binds (ps := ["one", "other"]) fun _ _ _ _ _ _ us hl => match us, hl with | [_, _], _ => rfl
  have F_sum_of := fun_mk (st := s_sum_of) l_sum_of e_sum_of k_sum_of
  have B_sum_of := F_sum_of.binds (ps := ["letters", "products"]) fun _ _ _ _ _ _ us hl => match us, hl with | [_, _], _ => rfl
  have F_all_within := fun_mk (st := s_all_within) l_all_within e_all_within k_all_within
  have B_all_within := F_all_within.binds (ps := ["some", "others"]) fun _ _ _ _ _ _ us hl => match us, hl with | [_, _], _ => rfl
  have F_meets_of := fun_mk (st := s_meets_of) l_meets_of e_meets_of k_meets_of
  have B_meets_of := F_meets_of.binds (ps := ["some", "others"]) fun _ _ _ _ _ _ us hl => match us, hl with | [_, _], _ => rfl
  have F_want_letters := fun_mk (st := s_want_letters) l_want_letters e_want_letters k_want_letters
  have B_want_letters := F_want_letters.binds (ps := ["letters"]) fun _ _ _ _ _ _ us hl => match us, hl with | [_], _ => rfl
  have F_line_of := fun_mk (st := s_line_of) l_line_of e_line_of k_line_of
  have B_line_of := F_line_of.binds (ps := ["words"]) fun _ _ _ _ _ _ us hl => match us, hl with | [_], _ => rfl
  have F_machine_lines := fun_mk (st := s_machine_lines) l_machine_lines e_machine_lines k_machine_lines
  have B_machine_lines := F_machine_lines.binds (ps := ["machine"]) fun _ _ _ _ _ _ us hl => match us, hl with | [_], _ => rfl
  have F_sum_lines := fun_mk (st := s_sum_lines) l_sum_lines e_sum_lines k_sum_lines
  have B_sum_lines := F_sum_lines.binds (ps := ["entry"]) fun _ _ _ _ _ _ us hl => match us, hl with | [_], _ => rfl
  have F_text_of := fun_mk (st := s_text_of) l_text_of e_text_of k_text_of
  have B_text_of := F_text_of.binds (ps := ["entry"]) fun _ _ _ _ _ _ us hl => match us, hl with | [_], _ => rfl
  have F_bytes_of := fun_mk (st := s_bytes_of) l_bytes_of e_bytes_of k_bytes_of
  have B_bytes_of := F_bytes_of.binds (ps := ["entry"]) fun _ _ _ _ _ _ us hl => match us, hl with | [_], _ => rfl
  have F_goal_of := fun_mk (st := s_goal_of) l_goal_of e_goal_of k_goal_of
  have B_goal_of := F_goal_of.binds (ps := ["word"]) fun _ _ _ _ _ _ us hl => match us, hl with | [_], _ => rfl
  have F_read_by := fun_mk (st := s_read_by) l_read_by e_read_by k_read_by
  have B_read_by := F_read_by.binds (ps := ["reader", "written"]) fun _ _ _ _ _ _ us hl => match us, hl with | [_, _], _ => rfl
  have F_read_machine := fun_mk (st := s_read_machine) l_read_machine e_read_machine k_read_machine
  have B_read_machine := F_read_machine.binds (ps := ["written"]) fun _ _ _ _ _ _ us hl => match us, hl with | [_], _ => rfl
  have F_read_sum := fun_mk (st := s_read_sum) l_read_sum e_read_sum k_read_sum
  have B_read_sum := F_read_sum.binds (ps := ["written"]) fun _ _ _ _ _ _ us hl => match us, hl with | [_], _ => rfl
  have F_law_pot := fun_mk (st := s_law_pot) l_law_pot e_law_pot k_law_pot
  have B_law_pot := F_law_pot.binds (ps := ["_law_script", "_law_k"]) fun _ _ _ _ _ _ us hl => match us, hl with | [_, _], _ => rfl
  have F_law_draw := fun_mk (st := s_law_draw) l_law_draw e_law_draw k_law_draw
  have B_law_draw := F_law_draw.binds (ps := ["_law_pot_here", "_law_sides"]) fun _ _ _ _ _ _ us hl => match us, hl with | [_, _], _ => rfl
  have F_law_pick := fun_mk (st := s_law_pick) l_law_pick e_law_pick k_law_pick
  have B_law_pick := F_law_pick.binds (ps := ["_law_pot_here", "_law_some"]) fun _ _ _ _ _ _ us hl => match us, hl with | [_, _], _ => rfl
  have F_law_piece := fun_mk (st := s_law_piece) l_law_piece e_law_piece k_law_piece
  have B_law_piece := F_law_piece.binds (ps := ["_law_pot_here", "_law_signs"]) fun _ _ _ _ _ _ us hl => match us, hl with | [_, _], _ => rfl
  have F_law_products := fun_mk (st := s_law_products) l_law_products e_law_products k_law_products
  have B_law_products := F_law_products.binds (ps := ["_law_pot_here", "_law_signs"]) fun _ _ _ _ _ _ us hl => match us, hl with | [_, _], _ => rfl
  have F_law_text := fun_mk (st := s_law_text) l_law_text e_law_text k_law_text
  have B_law_text := F_law_text.binds (ps := ["_law_signs", "_law_products_here"]) fun _ _ _ _ _ _ us hl => match us, hl with | [_, _], _ => rfl
  have F_law_line := fun_mk (st := s_law_line) l_law_line e_law_line k_law_line
  have B_law_line := F_law_line.binds (ps := ["_law_call"]) fun _ _ _ _ _ _ us hl => match us, hl with | [_], _ => rfl
  have F_law_has := fun_mk (st := s_law_has) l_law_has e_law_has k_law_has
  have B_law_has := F_law_has.binds (ps := ["_law_product", "_law_text_here"]) fun _ _ _ _ _ _ us hl => match us, hl with | [_, _], _ => rfl
  have F_law_asked_right := fun_mk (st := s_law_asked_right) l_law_asked_right e_law_asked_right k_law_asked_right
  have B_law_asked_right := F_law_asked_right.binds (ps := ["_law_pot_here", "_law_back", "_law_signs", "_law_products_here"]) fun _ _ _ _ _ _ us hl => match us, hl with | [_, _, _, _], _ => rfl
  have F_law_thing := fun_mk (st := s_law_thing) l_law_thing e_law_thing k_law_thing
  have B_law_thing := F_law_thing.binds (ps := ["_law_pot_here", "_law_signs", "_law_products_here"]) fun _ _ _ _ _ _ us hl => match us, hl with | [_, _, _], _ => rfl
  have F_law_right := fun_mk (st := s_law_right) l_law_right e_law_right k_law_right
  have B_law_right := F_law_right.binds (ps := ["_law_pot_here"]) fun _ _ _ _ _ _ us hl => match us, hl with | [_], _ => rfl
  have F_law := fun_mk (st := s_law) l_law e_law k_law
  have B_law := F_law.binds (ps := ["_law_script"]) fun _ _ _ _ _ _ us hl => match us, hl with | [_], _ => rfl
  have F_Sum_init := fun_mk (st := s_Sum_init) l_Sum_init e_Sum_init k_Sum_init
  have B_Sum_init := F_Sum_init.binds (ps := ["self", "letters", "products"]) fun _ _ _ _ _ _ us hl => match us, hl with | [_, _, _], _ => rfl
  have F_Sum_products := fun_mk (st := s_Sum_products) l_Sum_products e_Sum_products k_Sum_products
  have B_Sum_products := F_Sum_products.binds (ps := ["self"]) fun _ _ _ _ _ _ us hl => match us, hl with | [_], _ => rfl
  have F_Sum_want_other := fun_mk (st := s_Sum_want_other) l_Sum_want_other e_Sum_want_other k_Sum_want_other
  have B_Sum_want_other := F_Sum_want_other.binds (ps := ["self", "other"]) fun _ _ _ _ _ _ us hl => match us, hl with | [_, _], _ => rfl
  have F_Sum_is_within := fun_mk (st := s_Sum_is_within) l_Sum_is_within e_Sum_is_within k_Sum_is_within
  have B_Sum_is_within := F_Sum_is_within.binds (ps := ["self", "other"]) fun _ _ _ _ _ _ us hl => match us, hl with | [_, _], _ => rfl
  have F_Sum_contains := fun_mk (st := s_Sum_contains) l_Sum_contains e_Sum_contains k_Sum_contains
  have B_Sum_contains := F_Sum_contains.binds (ps := ["self", "value"]) fun _ _ _ _ _ _ us hl => match us, hl with | [_, _], _ => rfl
  have F_Sum_len := fun_mk (st := s_Sum_len) l_Sum_len e_Sum_len k_Sum_len
  have B_Sum_len := F_Sum_len.binds (ps := ["self"]) fun _ _ _ _ _ _ us hl => match us, hl with | [_], _ => rfl
  have F_Sum_and := fun_mk (st := s_Sum_and) l_Sum_and e_Sum_and k_Sum_and
  have B_Sum_and := F_Sum_and.binds (ps := ["self", "other"]) fun _ _ _ _ _ _ us hl => match us, hl with | [_, _], _ => rfl
  have F_Sum_or := fun_mk (st := s_Sum_or) l_Sum_or e_Sum_or k_Sum_or
  have B_Sum_or := F_Sum_or.binds (ps := ["self", "other"]) fun _ _ _ _ _ _ us hl => match us, hl with | [_, _], _ => rfl
  have F_Sum_eq := fun_mk (st := s_Sum_eq) l_Sum_eq e_Sum_eq k_Sum_eq
  have B_Sum_eq := F_Sum_eq.binds (ps := ["self", "other"]) fun _ _ _ _ _ _ us hl => match us, hl with | [_, _], _ => rfl
  have F_Sum_repr := fun_mk (st := s_Sum_repr) l_Sum_repr e_Sum_repr k_Sum_repr
  have B_Sum_repr := F_Sum_repr.binds (ps := ["self"]) fun _ _ _ _ _ _ us hl => match us, hl with | [_], _ => rfl
  have F_Sum_letters := fun_mk (st := s_Sum_letters) l_Sum_letters e_Sum_letters k_Sum_letters
  have B_Sum_letters := F_Sum_letters.binds (ps := ["self"]) fun _ _ _ _ _ _ us hl => match us, hl with | [_], _ => rfl
  have F_MachineReader_init := fun_mk (st := s_MachineReader_init) l_MachineReader_init e_MachineReader_init k_MachineReader_init
  have B_MachineReader_init := F_MachineReader_init.binds (ps := ["self"]) fun _ _ _ _ _ _ us hl => match us, hl with | [_], _ => rfl
  have F_MachineReader_take := fun_mk (st := s_MachineReader_take) l_MachineReader_take e_MachineReader_take k_MachineReader_take
  have B_MachineReader_take := F_MachineReader_take.binds (ps := ["self", "line"]) fun _ _ _ _ _ _ us hl => match us, hl with | [_, _], _ => rfl
  have F_MachineReader_take_place := fun_mk (st := s_MachineReader_take_place) l_MachineReader_take_place e_MachineReader_take_place k_MachineReader_take_place
  have B_MachineReader_take_place := F_MachineReader_take_place.binds (ps := ["self", "words"]) fun _ _ _ _ _ _ us hl => match us, hl with | [_, _], _ => rfl
  have F_MachineReader_is_lacking := fun_mk (st := s_MachineReader_is_lacking) l_MachineReader_is_lacking e_MachineReader_is_lacking k_MachineReader_is_lacking
  have B_MachineReader_is_lacking := F_MachineReader_is_lacking.binds (ps := ["self"]) fun _ _ _ _ _ _ us hl => match us, hl with | [_], _ => rfl
  have F_MachineReader_made := fun_mk (st := s_MachineReader_made) l_MachineReader_made e_MachineReader_made k_MachineReader_made
  have B_MachineReader_made := F_MachineReader_made.binds (ps := ["self"]) fun _ _ _ _ _ _ us hl => match us, hl with | [_], _ => rfl
  have F_SumReader_init := fun_mk (st := s_SumReader_init) l_SumReader_init e_SumReader_init k_SumReader_init
  have B_SumReader_init := F_SumReader_init.binds (ps := ["self"]) fun _ _ _ _ _ _ us hl => match us, hl with | [_], _ => rfl
  have F_SumReader_take := fun_mk (st := s_SumReader_take) l_SumReader_take e_SumReader_take k_SumReader_take
  have B_SumReader_take := F_SumReader_take.binds (ps := ["self", "line"]) fun _ _ _ _ _ _ us hl => match us, hl with | [_, _], _ => rfl
  have F_SumReader_take_product := fun_mk (st := s_SumReader_take_product) l_SumReader_take_product e_SumReader_take_product k_SumReader_take_product
  have B_SumReader_take_product := F_SumReader_take_product.binds (ps := ["self", "product"]) fun _ _ _ _ _ _ us hl => match us, hl with | [_, _], _ => rfl
  have F_SumReader_is_lacking := fun_mk (st := s_SumReader_is_lacking) l_SumReader_is_lacking e_SumReader_is_lacking k_SumReader_is_lacking
  have B_SumReader_is_lacking := F_SumReader_is_lacking.binds (ps := ["self"]) fun _ _ _ _ _ _ us hl => match us, hl with | [_], _ => rfl
  have F_SumReader_made := fun_mk (st := s_SumReader_made) l_SumReader_made e_SumReader_made k_SumReader_made
  have B_SumReader_made := F_SumReader_made.binds (ps := ["self"]) fun _ _ _ _ _ _ us hl => match us, hl with | [_], _ => rfl
  have F_Sum_whole := fun_mk (st := s_Sum_whole) l_Sum_whole e_Sum_whole k_Sum_whole
  have B_Sum_whole := F_Sum_whole.binds (ps := ["letters"]) fun _ _ _ _ _ _ us hl => match us, hl with | [_], _ => rfl
  have EF_InvalidRow := errF_mk (P := PW) (ps := ["self", "row"]) PySem.F.excBase_ValueError PySem.W.kxs_ValueError (by decide +kernel) PySem.F.store_ValueError.passes lc_InvalidRow li_InvalidRow ei_InvalidRow lk_InvalidRow v2_InvalidRow fl_InvalidRow lcc_InvalidRow (fun s us hl => match us, hl with | [_, _], _ => .of_eq rfl) su_InvalidRow se_InvalidRow sb_InvalidRow op_InvalidRow (PySem.W.mg_none_of X G z_super) tp_InvalidRow sa_InvalidRow ii_InvalidRow ti_InvalidRow kc_InvalidRow ex_InvalidRow ty_InvalidRow
  exact ⟨⟨_, PySem.W.mg_of X G a_InvalidRow, ⟨_, _, _, _, _, _, _, _, ⟨EF_InvalidRow, es_InvalidRow⟩, eb_InvalidRow, nf_InvalidRow_row⟩, ⟨ga_InvalidRow, gg_InvalidRow, ex_InvalidRow, hdc_InvalidRow⟩, PySem.W.exm_ref ex_InvalidRow hdc_InvalidRow ty_InvalidRow ss_InvalidRow,
    nf_InvalidRow_row,
    _, _, ⟨F_is_list, B_is_list, PySem.W.mg_of X G a_is_list⟩,
    _, _, ⟨F_is_text, B_is_text, PySem.W.mg_of X G a_is_text⟩,
    _, _, ⟨F_are_letters, B_are_letters, PySem.W.mg_of X G a_are_letters⟩,
    _, _, ⟨F_is_text_over, B_is_text_over, PySem.W.mg_of X G a_is_text_over⟩,
    _, _, ⟨F_want_few, B_want_few, PySem.W.mg_of X G a_want_few⟩,
    _, _, ⟨F_want_same, B_want_same, PySem.W.mg_of X G a_want_same⟩,
    _, _, ⟨F_is_star, B_is_star, PySem.W.mg_of X G a_is_star⟩,
    _, _, ⟨F_letters_in, B_letters_in, PySem.W.mg_of X G a_letters_in⟩,
    _, _, ⟨F_are_rising, B_are_rising, PySem.W.mg_of X G a_are_rising⟩,
    _, _, ⟨F_is_piece, B_is_piece, PySem.W.mg_of X G a_is_piece⟩,
    _, _, ⟨F_is_product, B_is_product, PySem.W.mg_of X G a_is_product⟩,
    _, _, ⟨F_is_product_over, B_is_product_over, PySem.W.mg_of X G a_is_product_over⟩,
    _, _, ⟨F_holds, B_holds, PySem.W.mg_of X G a_holds⟩,
    _, _, ⟨F_place_behind, B_place_behind, PySem.W.mg_of X G a_place_behind⟩,
    _, _, ⟨F_place_by, B_place_by, PySem.W.mg_of X G a_place_by⟩,
    _, _, ⟨F_has_text, B_has_text, PySem.W.mg_of X G a_has_text⟩,
    _, _, ⟨F_lies_within, B_lies_within, PySem.W.mg_of X G a_lies_within⟩,
    _, _, ⟨F_reduced_of, B_reduced_of, PySem.W.mg_of X G a_reduced_of⟩,
    _, _, ⟨F_kept_of, B_kept_of, PySem.W.mg_of X G a_kept_of⟩,
    _, _, ⟨F_met_behind, B_met_behind, PySem.W.mg_of X G a_met_behind⟩,
    _, _, ⟨F_meet_of, B_meet_of, PySem.W.mg_of X G a_meet_of⟩,
    _, _, ⟨F_sum_of, B_sum_of, PySem.W.mg_of X G a_sum_of⟩,
    _, _, ⟨F_all_within, B_all_within, PySem.W.mg_of X G a_all_within⟩,
    _, _, ⟨F_meets_of, B_meets_of, PySem.W.mg_of X G a_meets_of⟩,
    _, _, ⟨F_want_letters, B_want_letters, PySem.W.mg_of X G a_want_letters⟩,
    _, _, ⟨F_line_of, B_line_of, PySem.W.mg_of X G a_line_of⟩,
    _, _, ⟨F_machine_lines, B_machine_lines, PySem.W.mg_of X G a_machine_lines⟩,
    _, _, ⟨F_sum_lines, B_sum_lines, PySem.W.mg_of X G a_sum_lines⟩,
    _, _, ⟨F_text_of, B_text_of, PySem.W.mg_of X G a_text_of⟩,
    _, _, ⟨F_bytes_of, B_bytes_of, PySem.W.mg_of X G a_bytes_of⟩,
    _, _, ⟨F_goal_of, B_goal_of, PySem.W.mg_of X G a_goal_of⟩,
    _, _, ⟨F_read_by, B_read_by, PySem.W.mg_of X G a_read_by⟩,
    _, _, ⟨F_read_machine, B_read_machine, PySem.W.mg_of X G a_read_machine⟩,
    _, _, ⟨F_read_sum, B_read_sum, PySem.W.mg_of X G a_read_sum⟩,
    _, _, ⟨F_law_pot, B_law_pot, PySem.W.mg_of X G a_law_pot⟩,
    _, _, ⟨F_law_draw, B_law_draw, PySem.W.mg_of X G a_law_draw⟩,
    _, _, ⟨F_law_pick, B_law_pick, PySem.W.mg_of X G a_law_pick⟩,
    _, _, ⟨F_law_piece, B_law_piece, PySem.W.mg_of X G a_law_piece⟩,
    _, _, ⟨F_law_products, B_law_products, PySem.W.mg_of X G a_law_products⟩,
    _, _, ⟨F_law_text, B_law_text, PySem.W.mg_of X G a_law_text⟩,
    _, _, ⟨F_law_line, B_law_line, PySem.W.mg_of X G a_law_line⟩,
    _, _, ⟨F_law_has, B_law_has, PySem.W.mg_of X G a_law_has⟩,
    _, _, ⟨F_law_asked_right, B_law_asked_right, PySem.W.mg_of X G a_law_asked_right⟩,
    _, _, ⟨F_law_thing, B_law_thing, PySem.W.mg_of X G a_law_thing⟩,
    _, _, ⟨F_law_right, B_law_right, PySem.W.mg_of X G a_law_right⟩,
    _, _, ⟨F_law, B_law, PySem.W.mg_of X G a_law⟩,
    _, ⟨pg_Machine, hd_Machine, po_Machine, sa_Machine⟩, PySem.W.mg_of X G a_Machine, mk_Machine, kc_Machine, ca_Machine, cg_Machine, ct_Machine, ne_Machine, tt_Machine, ⟨cr_Machine, ck_Machine⟩,
    _, ⟨pg_Sum, hd_Sum, po_Sum, sa_Sum⟩, PySem.W.mg_of X G a_Sum, mk_Sum, kc_Sum, ca_Sum, cg_Sum, ct_Sum, ne_Sum, tt_Sum, ns_Sum, ⟨cr_Sum, ck_Sum⟩,
    ⟨_, by unfold PySem.W.clsIn; rw [lk_Sum], mo_Sum⟩,
    ni_Sum_and,
    ni_Sum_or,
    ⟨_, ⟨cv_Sum_MOST_PRODUCTS, ⟨_, rfl⟩⟩⟩,
    nf_Sum_own_letters,
    nf_Sum_own_products,
    ⟨_, ⟨ka_Sum_MOST_PRODUCTS, ⟨_, rfl⟩, kg_Sum_MOST_PRODUCTS, by decide +kernel⟩⟩,
    _, _, ⟨F_Sum_init, B_Sum_init, ⟨a_Sum_init, i_Sum_init, k_Sum_init⟩⟩,
    _, _, ⟨F_Sum_products, B_Sum_products, ⟨a_Sum_products, i_Sum_products, k_Sum_products⟩⟩,
    _, _, ⟨F_Sum_want_other, B_Sum_want_other, ⟨a_Sum_want_other, i_Sum_want_other, k_Sum_want_other⟩⟩,
    _, _, ⟨F_Sum_is_within, B_Sum_is_within, ⟨a_Sum_is_within, i_Sum_is_within, k_Sum_is_within⟩⟩,
    _, _, ⟨F_Sum_contains, B_Sum_contains, ⟨a_Sum_contains, i_Sum_contains, k_Sum_contains⟩⟩,
    _, _, ⟨F_Sum_len, B_Sum_len, ⟨a_Sum_len, i_Sum_len, k_Sum_len⟩⟩,
    _, _, ⟨F_Sum_and, B_Sum_and, ⟨a_Sum_and, i_Sum_and, k_Sum_and⟩⟩,
    _, _, ⟨F_Sum_or, B_Sum_or, ⟨a_Sum_or, i_Sum_or, k_Sum_or⟩⟩,
    _, _, ⟨F_Sum_eq, B_Sum_eq, ⟨a_Sum_eq, i_Sum_eq, k_Sum_eq⟩⟩,
    _, _, ⟨F_Sum_repr, B_Sum_repr, ⟨a_Sum_repr, i_Sum_repr, k_Sum_repr⟩⟩,
    _, _, _, ⟨F_Sum_letters, B_Sum_letters, ⟨a_Sum_letters, pg_Sum_letters, pt_Sum_letters, ⟨_, pr_Sum_letters⟩⟩⟩,
    _, ⟨pg_MachineReader, hd_MachineReader, po_MachineReader, sa_MachineReader⟩, PySem.W.mg_of X G a_MachineReader, mk_MachineReader, kc_MachineReader, ca_MachineReader, cg_MachineReader, ct_MachineReader, ne_MachineReader, tt_MachineReader, ⟨cr_MachineReader, ck_MachineReader⟩,
    nf_MachineReader_own_letters,
    nf_MachineReader_own_rows,
    nf_MachineReader_own_kinds,
    _, _, ⟨F_MachineReader_init, B_MachineReader_init, ⟨a_MachineReader_init, i_MachineReader_init, k_MachineReader_init⟩⟩,
    _, _, ⟨F_MachineReader_take, B_MachineReader_take, ⟨a_MachineReader_take, i_MachineReader_take, k_MachineReader_take⟩⟩,
    _, _, ⟨F_MachineReader_take_place, B_MachineReader_take_place, ⟨a_MachineReader_take_place, i_MachineReader_take_place, k_MachineReader_take_place⟩⟩,
    _, _, ⟨F_MachineReader_is_lacking, B_MachineReader_is_lacking, ⟨a_MachineReader_is_lacking, i_MachineReader_is_lacking, k_MachineReader_is_lacking⟩⟩,
    _, _, ⟨F_MachineReader_made, B_MachineReader_made, ⟨a_MachineReader_made, i_MachineReader_made, k_MachineReader_made⟩⟩,
    _, ⟨pg_SumReader, hd_SumReader, po_SumReader, sa_SumReader⟩, PySem.W.mg_of X G a_SumReader, mk_SumReader, kc_SumReader, ca_SumReader, cg_SumReader, ct_SumReader, ne_SumReader, tt_SumReader, ⟨cr_SumReader, ck_SumReader⟩,
    nf_SumReader_own_letters,
    nf_SumReader_own_told,
    _, _, ⟨F_SumReader_init, B_SumReader_init, ⟨a_SumReader_init, i_SumReader_init, k_SumReader_init⟩⟩,
    _, _, ⟨F_SumReader_take, B_SumReader_take, ⟨a_SumReader_take, i_SumReader_take, k_SumReader_take⟩⟩,
    _, _, ⟨F_SumReader_take_product, B_SumReader_take_product, ⟨a_SumReader_take_product, i_SumReader_take_product, k_SumReader_take_product⟩⟩,
    _, _, ⟨F_SumReader_is_lacking, B_SumReader_is_lacking, ⟨a_SumReader_is_lacking, i_SumReader_is_lacking, k_SumReader_is_lacking⟩⟩,
    _, _, ⟨F_SumReader_made, B_SumReader_made, ⟨a_SumReader_made, i_SumReader_made, k_SumReader_made⟩⟩,
    _, _, _, ⟨F_Sum_whole, B_Sum_whole, ⟨a_Sum_whole, ⟨_, pr_Sum_whole⟩, k_Sum_whole⟩⟩,
    ⟨ga_InvalidRow, gg_InvalidRow, ex_InvalidRow, hdc_InvalidRow, xa_InvalidRow, xn_InvalidRow, xt_InvalidRow, xm_InvalidRow⟩,
    _, PySem.W.mg_of X G a_PartsError, kit_sub hd_PartsError tt_PartsError su_InvalidRow_PartsError,
    kit_tyX su_InvalidRow_ValueError,
    PySem.W.mg_none_of X G z_ValueError,
    PySem.W.mg_none_of X G z_abs,
    PySem.W.mg_none_of X G z_all,
    PySem.W.mg_none_of X G z_any,
    PySem.W.mg_none_of X G z_bool,
    PySem.W.mg_none_of X G z_dict,
    PySem.W.mg_none_of X G z_divmod,
    PySem.W.mg_none_of X G z_enumerate,
    PySem.W.mg_none_of X G z_int,
    PySem.W.mg_none_of X G z_isinstance,
    PySem.W.mg_none_of X G z_len,
    PySem.W.mg_none_of X G z_list,
    PySem.W.mg_none_of X G z_max,
    PySem.W.mg_none_of X G z_min,
    PySem.W.mg_none_of X G z_ord,
    PySem.W.mg_none_of X G z_property,
    PySem.W.mg_none_of X G z_range,
    PySem.W.mg_none_of X G z_repr,
    PySem.W.mg_none_of X G z_set,
    PySem.W.mg_none_of X G z_sorted,
    PySem.W.mg_none_of X G z_str,
    PySem.W.mg_none_of X G z_super,
    PySem.W.mg_none_of X G z_tuple,
    PySem.W.mg_none_of X G z_zip,
    ⟨_, PySem.W.mg_of X G y_SMALL_basics⟩,
    ⟨_, PySem.W.mg_of X G y_MOST_LETTERS⟩,
    ⟨_, PySem.W.mg_of X G y_SMALL_products⟩,
    ⟨_, PySem.W.mg_of X G y_STAR⟩,
    ⟨_, PySem.W.mg_of X G y_MOST_IN_STAR⟩,
    ⟨_, PySem.W.mg_of X G y_MOST_PIECES⟩,
    ⟨_, PySem.W.mg_of X G y_LOST⟩,
    ⟨_, PySem.W.mg_of X G y_MOST_PARTS_LETTERS⟩,
    ⟨_, PySem.W.mg_of X G y_MOST_TEXTS⟩,
    ⟨_, PySem.W.mg_of X G y_MOST_WITHOUT_LETTERS⟩,
    ⟨_, PySem.W.mg_of X G y_DIGITS⟩,
    _, PySem.W.mg_of X G a_KINDS⟩, rfl, rfl⟩
/-- where the table of a code object lies -/
def pOf (K : PySem.W.Frag) (c : Addr) : Addr := match K.lookup c with
  | some ⟨_, _, .fields vs, _⟩ => (match (vs[11]? : Option Value) with | some (.ref P) => P | _ => 0)
  | _ => 0
theorem fin1 {w : World} {K : PySem.W.Frag} {mg mb : Str → Option Value} {fa fl a c1 : Addr} {s₁ : Shared} {vs : List Value} {ns : List Int} {ts : List Addr}
    (KX : K.In s₁.heap) (hns : s₁.heap.Ns mainGlobals mg) (hb : s₁.heap.Ns builtinsNs mb) (hbb : ∀ x : Str, x ≠ "__name__" → mb x = bootBuiltins x) (hlim : s₁.heap.NoLimit) (hg : s₁.gens = #[])
    (hT : ∀ P ∈ ts, s₁.heap.get? P = some (PySem.W.tabObj #[])) (m1 : ts.contains (pOf K c1) = true)
    (nT1 : (K.lookup (pOf K c1)).isNone = true) (hC1 : PySem.W.codeHdIn K c1 (pOf K c1) = true)
    (hbm : ∃ (bm : Addr) (ob : Obj), mg "__builtins__" = some (.ref bm) ∧ bm ≠ builtinsNs ∧ s₁.heap.get? bm = some ob ∧ ob.cls = .type "module" ∧ ob.dict = some builtinsNs ∧ ob.data = .plain)
    (ha : s₁.heap.get? a = some { cls := .type "list", data := .seq vs.toArray }) (hi : IntsAre vs ns) (hl : ns.length ≤ sizeLine) (hmg : mg "law" = some (.ref fa))
    (hall : ∃ T : All K mg, T.f_law = fl ∧ T.d_law_right.code = .ref c1) :
    codeAny (model PW w) callerA (.call (.ref fa) ⟨[.ref a], []⟩) (fun r s' => r = .ok (.ret (.bool true)) ∧ OldK s₁.heap s'.heap ∧ s'.os = s₁.os ∧ AllBare s'.gens) s₁ := by
  have mm : ∀ {P : Addr}, ts.contains P = true → P ∈ ts := fun h => List.contains_iff_mem.mp h
  have nn : ∀ {P : Addr}, (K.lookup P).isNone = true → K.lookup P = none := fun h => Option.isNone_iff_eq_none.mp h
  exact fin KX hns hb hbb hlim hg (hT _ (mm m1)) (nn nT1) hC1 hbm ha hi hl hmg hall
end Lw
open PySem PySem.W PyProof.Rows
set_option maxRecDepth 100000 in
set_option maxHeartbeats 0 in
theorem PySem.Challenge.cw_missedparts_k91_whole_texts_of_sums_holds : PySem.Challenge.rw_missedparts_k91_whole_texts_of_sums.Holds :=
  Lw.hd (by
  k_fill
  refine Att.attach_callB rfl rfl fun w s₀ s₁ mg mb fa o pm cd doc a vs ns G Y ho hd hcd hmg hobj hints hlen hbits hg => ?_
  have KX := PySem.W.km_in_of Y
  have GG := G.T.g
  refine' Lw.fin1 KX GG G.T.b G.T.builtins G.T.nolimit hg (PySem.W.km_tabs_of Y) ?m1 ?nT1 ?hC1 G.T.bmain hobj hints (Nat.le_trans hlen (by decide)) hmg (Lw.all_mk KX GG ?a_is_list ?l_is_list ?e_is_list ?k_is_list ?a_is_text ?l_is_text ?e_is_text ?k_is_text ?a_are_letters ?l_are_letters ?e_are_letters ?k_are_letters ?a_is_text_over ?l_is_text_over ?e_is_text_over ?k_is_text_over ?a_want_few ?l_want_few ?e_want_few ?k_want_few ?a_want_same ?l_want_same ?e_want_same ?k_want_same ?a_is_star ?l_is_star ?e_is_star ?k_is_star ?a_letters_in ?l_letters_in ?e_letters_in ?k_letters_in ?a_are_rising ?l_are_rising ?e_are_rising ?k_are_rising ?a_is_piece ?l_is_piece ?e_is_piece ?k_is_piece ?a_is_product ?l_is_product ?e_is_product ?k_is_product ?a_is_product_over ?l_is_product_over ?e_is_product_over ?k_is_product_over ?a_holds ?l_holds ?e_holds ?k_holds ?a_place_behind ?l_place_behind ?e_place_behind ?k_place_behind ?a_place_by ?l_place_by ?e_place_by ?k_place_by ?a_has_text ?l_has_text ?e_has_text ?k_has_text ?a_lies_within ?l_lies_within ?e_lies_within ?k_lies_within ?a_reduced_of ?l_reduced_of ?e_reduced_of ?k_reduced_of ?a_kept_of ?l_kept_of ?e_kept_of ?k_kept_of ?a_met_behind ?l_met_behind ?e_met_behind ?k_met_behind ?a_meet_of ?l_meet_of ?e_meet_of ?k_meet_of ?a_sum_of ?l_sum_of ?e_sum_of ?k_sum_of ?a_all_within ?l_all_within ?e_all_within ?k_all_within ?a_meets_of ?l_meets_of ?e_meets_of ?k_meets_of ?a_want_letters ?l_want_letters ?e_want_letters ?k_want_letters ?a_line_of ?l_line_of ?e_line_of ?k_line_of ?a_machine_lines ?l_machine_lines ?e_machine_lines ?k_machine_lines ?a_sum_lines ?l_sum_lines ?e_sum_lines ?k_sum_lines ?a_text_of ?l_text_of ?e_text_of ?k_text_of ?a_bytes_of ?l_bytes_of ?e_bytes_of ?k_bytes_of ?a_goal_of ?l_goal_of ?e_goal_of ?k_goal_of ?a_read_by ?l_read_by ?e_read_by ?k_read_by ?a_read_machine ?l_read_machine ?e_read_machine ?k_read_machine ?a_read_sum ?l_read_sum ?e_read_sum ?k_read_sum ?a_law_pot ?l_law_pot ?e_law_pot ?k_law_pot ?a_law_draw ?l_law_draw ?e_law_draw ?k_law_draw ?a_law_pick ?l_law_pick ?e_law_pick ?k_law_pick ?a_law_piece ?l_law_piece ?e_law_piece ?k_law_piece ?a_law_products ?l_law_products ?e_law_products ?k_law_products ?a_law_text ?l_law_text ?e_law_text ?k_law_text ?a_law_line ?l_law_line ?e_law_line ?k_law_line ?a_law_has ?l_law_has ?e_law_has ?k_law_has ?a_law_asked_right ?l_law_asked_right ?e_law_asked_right ?k_law_asked_right ?a_law_thing ?l_law_thing ?e_law_thing ?k_law_thing ?a_law_right ?l_law_right ?e_law_right ?k_law_right ?a_law ?l_law ?e_law ?k_law ?a_Machine ?pg_Machine ?hd_Machine ?po_Machine ?sa_Machine ?mk_Machine ?kc_Machine ?ca_Machine ?cg_Machine ?ct_Machine ?ne_Machine ?tt_Machine ?cr_Machine ?ck_Machine ?a_Sum ?pg_Sum ?hd_Sum ?po_Sum ?sa_Sum ?mk_Sum ?kc_Sum ?ca_Sum ?cg_Sum ?ct_Sum ?ne_Sum ?tt_Sum ?cr_Sum ?ck_Sum ?ns_Sum ?lk_Sum ?mo_Sum ?ni_Sum_and ?ni_Sum_or ?cv_Sum_MOST_PRODUCTS ?nf_Sum_own_letters ?nf_Sum_own_products ?ka_Sum_MOST_PRODUCTS ?kg_Sum_MOST_PRODUCTS ?a_Sum_init ?i_Sum_init ?l_Sum_init ?e_Sum_init ?k_Sum_init ?a_Sum_products ?i_Sum_products ?l_Sum_products ?e_Sum_products ?k_Sum_products ?a_Sum_want_other ?i_Sum_want_other ?l_Sum_want_other ?e_Sum_want_other ?k_Sum_want_other ?a_Sum_is_within ?i_Sum_is_within ?l_Sum_is_within ?e_Sum_is_within ?k_Sum_is_within ?a_Sum_contains ?i_Sum_contains ?l_Sum_contains ?e_Sum_contains ?k_Sum_contains ?a_Sum_len ?i_Sum_len ?l_Sum_len ?e_Sum_len ?k_Sum_len ?a_Sum_and ?i_Sum_and ?l_Sum_and ?e_Sum_and ?k_Sum_and ?a_Sum_or ?i_Sum_or ?l_Sum_or ?e_Sum_or ?k_Sum_or ?a_Sum_eq ?i_Sum_eq ?l_Sum_eq ?e_Sum_eq ?k_Sum_eq ?a_Sum_repr ?i_Sum_repr ?l_Sum_repr ?e_Sum_repr ?k_Sum_repr ?a_Sum_letters ?pg_Sum_letters ?pt_Sum_letters ?pr_Sum_letters ?l_Sum_letters ?e_Sum_letters ?k_Sum_letters ?a_MachineReader ?pg_MachineReader ?hd_MachineReader ?po_MachineReader ?sa_MachineReader ?mk_MachineReader ?kc_MachineReader ?ca_MachineReader ?cg_MachineReader ?ct_MachineReader ?ne_MachineReader ?tt_MachineReader ?cr_MachineReader ?ck_MachineReader ?nf_MachineReader_own_letters ?nf_MachineReader_own_rows ?nf_MachineReader_own_kinds ?a_MachineReader_init ?i_MachineReader_init ?l_MachineReader_init ?e_MachineReader_init ?k_MachineReader_init ?a_MachineReader_take ?i_MachineReader_take ?l_MachineReader_take ?e_MachineReader_take ?k_MachineReader_take ?a_MachineReader_take_place ?i_MachineReader_take_place ?l_MachineReader_take_place ?e_MachineReader_take_place ?k_MachineReader_take_place ?a_MachineReader_is_lacking ?i_MachineReader_is_lacking ?l_MachineReader_is_lacking ?e_MachineReader_is_lacking ?k_MachineReader_is_lacking ?a_MachineReader_made ?i_MachineReader_made ?l_MachineReader_made ?e_MachineReader_made ?k_MachineReader_made ?a_SumReader ?pg_SumReader ?hd_SumReader ?po_SumReader ?sa_SumReader ?mk_SumReader ?kc_SumReader ?ca_SumReader ?cg_SumReader ?ct_SumReader ?ne_SumReader ?tt_SumReader ?cr_SumReader ?ck_SumReader ?nf_SumReader_own_letters ?nf_SumReader_own_told ?a_SumReader_init ?i_SumReader_init ?l_SumReader_init ?e_SumReader_init ?k_SumReader_init ?a_SumReader_take ?i_SumReader_take ?l_SumReader_take ?e_SumReader_take ?k_SumReader_take ?a_SumReader_take_product ?i_SumReader_take_product ?l_SumReader_take_product ?e_SumReader_take_product ?k_SumReader_take_product ?a_SumReader_is_lacking ?i_SumReader_is_lacking ?l_SumReader_is_lacking ?e_SumReader_is_lacking ?k_SumReader_is_lacking ?a_SumReader_made ?i_SumReader_made ?l_SumReader_made ?e_SumReader_made ?k_SumReader_made ?a_InvalidRow ?lc_InvalidRow ?ii_InvalidRow ?li_InvalidRow ?ei_InvalidRow ?lk_InvalidRow ?v2_InvalidRow ?fl_InvalidRow ?lcc_InvalidRow ?su_InvalidRow ?se_InvalidRow ?sb_InvalidRow ?op_InvalidRow ?tp_InvalidRow ?sa_InvalidRow ?ti_InvalidRow ?kc_InvalidRow ?ex_InvalidRow ?ty_InvalidRow ?ga_InvalidRow ?gg_InvalidRow ?hdc_InvalidRow ?ss_InvalidRow ?nf_InvalidRow_row ?a_Sum_whole ?pr_Sum_whole ?l_Sum_whole ?e_Sum_whole ?k_Sum_whole ?xa_InvalidRow ?xn_InvalidRow ?xt_InvalidRow ?xm_InvalidRow ?a_PartsError ?hd_PartsError ?tt_PartsError ?su_InvalidRow_PartsError ?su_InvalidRow_ValueError ?z_ValueError ?z_abs ?z_all ?z_any ?z_bool ?z_dict ?z_divmod ?z_enumerate ?z_int ?z_isinstance ?z_len ?z_list ?z_max ?z_min ?z_ord ?z_property ?z_range ?z_repr ?z_set ?z_sorted ?z_str ?z_super ?z_tuple ?z_zip ?y_SMALL_basics ?y_MOST_LETTERS ?y_SMALL_products ?y_STAR ?y_MOST_IN_STAR ?y_MOST_PIECES ?y_LOST ?y_MOST_PARTS_LETTERS ?y_MOST_TEXTS ?y_MOST_WITHOUT_LETTERS ?y_DIGITS ?a_KINDS)
  (case a_is_list => k_is); (case l_is_list => k_is); (case e_is_list => k_is); (case k_is_list => k_is); (case a_is_text => k_is); (case l_is_text => k_is); (case e_is_text => k_is); (case k_is_text => k_is); (case a_are_letters => k_is); (case l_are_letters => k_is); (case e_are_letters => k_is); (case k_are_letters => k_is); (case a_is_text_over => k_is); (case l_is_text_over => k_is); (case e_is_text_over => k_is); (case k_is_text_over => k_is); (case a_want_few => k_is); (case l_want_few => k_is); (case e_want_few => k_is); (case k_want_few => k_is); (case a_want_same => k_is); (case l_want_same => k_is); (case e_want_same => k_is); (case k_want_same => k_is); (case a_is_star => k_is); (case l_is_star => k_is); (case e_is_star => k_is); (case k_is_star => k_is); (case a_letters_in => k_is); (case l_letters_in => k_is); (case e_letters_in => k_is); (case k_letters_in => k_is); (case a_are_rising => k_is); (case l_are_rising => k_is); (case e_are_rising => k_is); (case k_are_rising => k_is); (case a_is_piece => k_is); (case l_is_piece => k_is); (case e_is_piece => k_is); (case k_is_piece => k_is); (case a_is_product => k_is); (case l_is_product => k_is); (case e_is_product => k_is); (case k_is_product => k_is); (case a_is_product_over => k_is); (case l_is_product_over => k_is); (case e_is_product_over => k_is); (case k_is_product_over => k_is); (case a_holds => k_is); (case l_holds => k_is); (case e_holds => k_is); (case k_holds => k_is); (case a_place_behind => k_is); (case l_place_behind => k_is); (case e_place_behind => k_is); (case k_place_behind => k_is); (case a_place_by => k_is); (case l_place_by => k_is); (case e_place_by => k_is); (case k_place_by => k_is); (case a_has_text => k_is); (case l_has_text => k_is); (case e_has_text => k_is); (case k_has_text => k_is); (case a_lies_within => k_is); (case l_lies_within => k_is); (case e_lies_within => k_is); (case k_lies_within => k_is); (case a_reduced_of => k_is); (case l_reduced_of => k_is); (case e_reduced_of => k_is); (case k_reduced_of => k_is); (case a_kept_of => k_is); (case l_kept_of => k_is); (case e_kept_of => k_is); (case k_kept_of => k_is); (case a_met_behind => k_is); (case l_met_behind => k_is); (case e_met_behind => k_is); (case k_met_behind => k_is); (case a_meet_of => k_is); (case l_meet_of => k_is); (case e_meet_of => k_is); (case k_meet_of => k_is); (case a_sum_of => k_is); (case l_sum_of => k_is); (case e_sum_of => k_is); (case k_sum_of => k_is); (case a_all_within => k_is); (case l_all_within => k_is); (case e_all_within => k_is); (case k_all_within => k_is); (case a_meets_of => k_is); (case l_meets_of => k_is); (case e_meets_of => k_is); (case k_meets_of => k_is); (case a_want_letters => k_is); (case l_want_letters => k_is); (case e_want_letters => k_is); (case k_want_letters => k_is); (case a_line_of => k_is); (case l_line_of => k_is); (case e_line_of => k_is); (case k_line_of => k_is); (case a_machine_lines => k_is); (case l_machine_lines => k_is); (case e_machine_lines => k_is); (case k_machine_lines => k_is); (case a_sum_lines => k_is); (case l_sum_lines => k_is); (case e_sum_lines => k_is); (case k_sum_lines => k_is); (case a_text_of => k_is); (case l_text_of => k_is); (case e_text_of => k_is); (case k_text_of => k_is); (case a_bytes_of => k_is); (case l_bytes_of => k_is); (case e_bytes_of => k_is); (case k_bytes_of => k_is); (case a_goal_of => k_is); (case l_goal_of => k_is); (case e_goal_of => k_is); (case k_goal_of => k_is); (case a_read_by => k_is); (case l_read_by => k_is); (case e_read_by => k_is); (case k_read_by => k_is); (case a_read_machine => k_is); (case l_read_machine => k_is); (case e_read_machine => k_is); (case k_read_machine => k_is); (case a_read_sum => k_is); (case l_read_sum => k_is); (case e_read_sum => k_is); (case k_read_sum => k_is); (case a_law_pot => k_is); (case l_law_pot => k_is); (case e_law_pot => k_is); (case k_law_pot => k_is); (case a_law_draw => k_is); (case l_law_draw => k_is); (case e_law_draw => k_is); (case k_law_draw => k_is); (case a_law_pick => k_is); (case l_law_pick => k_is); (case e_law_pick => k_is); (case k_law_pick => k_is); (case a_law_piece => k_is); (case l_law_piece => k_is); (case e_law_piece => k_is); (case k_law_piece => k_is); (case a_law_products => k_is); (case l_law_products => k_is); (case e_law_products => k_is); (case k_law_products => k_is); (case a_law_text => k_is); (case l_law_text => k_is); (case e_law_text => k_is); (case k_law_text => k_is); (case a_law_line => k_is); (case l_law_line => k_is); (case e_law_line => k_is); (case k_law_line => k_is); (case a_law_has => k_is); (case l_law_has => k_is); (case e_law_has => k_is); (case k_law_has => k_is); (case a_law_asked_right => k_is); (case l_law_asked_right => k_is); (case e_law_asked_right => k_is); (case k_law_asked_right => k_is); (case a_law_thing => k_is); (case l_law_thing => k_is); (case e_law_thing => k_is); (case k_law_thing => k_is); (case a_law_right => k_is); (case l_law_right => k_is); (case e_law_right => k_is); (case k_law_right => k_is); (case a_law => k_is); (case l_law => k_is); (case e_law => k_is); (case k_law => k_is); (case a_Machine => k_is); (case pg_Machine => k_is); (case hd_Machine => k_is); (case po_Machine => k_is); (case sa_Machine => k_is); (case mk_Machine => k_is); (case kc_Machine => k_is); (case ca_Machine => k_is); (case cg_Machine => k_is); (case ct_Machine => k_is); (case ne_Machine => k_is); (case tt_Machine => k_is); (case cr_Machine => k_is); (case ck_Machine => k_is); (case a_Sum => k_is); (case pg_Sum => k_is); (case hd_Sum => k_is); (case po_Sum => k_is); (case sa_Sum => k_is); (case mk_Sum => k_is); (case kc_Sum => k_is); (case ca_Sum => k_is); (case cg_Sum => k_is); (case ct_Sum => k_is); (case ne_Sum => k_is); (case tt_Sum => k_is); (case cr_Sum => k_is); (case ck_Sum => k_is); (case ns_Sum => k_is); (case lk_Sum => k_is); (case mo_Sum => rfl); (case ni_Sum_and => k_is); (case ni_Sum_or => k_is); (case cv_Sum_MOST_PRODUCTS => k_is); (case nf_Sum_own_letters => k_is); (case nf_Sum_own_products => k_is); (case ka_Sum_MOST_PRODUCTS => k_is); (case kg_Sum_MOST_PRODUCTS => k_is); (case a_Sum_init => k_is); (case i_Sum_init => k_is); (case l_Sum_init => k_is); (case e_Sum_init => k_is); (case k_Sum_init => k_is); (case a_Sum_products => k_is); (case i_Sum_products => k_is); (case l_Sum_products => k_is); (case e_Sum_products => k_is); (case k_Sum_products => k_is); (case a_Sum_want_other => k_is); (case i_Sum_want_other => k_is); (case l_Sum_want_other => k_is); (case e_Sum_want_other => k_is); (case k_Sum_want_other => k_is); (case a_Sum_is_within => k_is); (case i_Sum_is_within => k_is); (case l_Sum_is_within => k_is); (case e_Sum_is_within => k_is); (case k_Sum_is_within => k_is); (case a_Sum_contains => k_is); (case i_Sum_contains => k_is); (case l_Sum_contains => k_is); (case e_Sum_contains => k_is); (case k_Sum_contains => k_is); (case a_Sum_len => k_is); (case i_Sum_len => k_is); (case l_Sum_len => k_is); (case e_Sum_len => k_is); (case k_Sum_len => k_is); (case a_Sum_and => k_is); (case i_Sum_and => k_is); (case l_Sum_and => k_is); (case e_Sum_and => k_is); (case k_Sum_and => k_is); (case a_Sum_or => k_is); (case i_Sum_or => k_is); (case l_Sum_or => k_is); (case e_Sum_or => k_is); (case k_Sum_or => k_is); (case a_Sum_eq => k_is); (case i_Sum_eq => k_is); (case l_Sum_eq => k_is); (case e_Sum_eq => k_is); (case k_Sum_eq => k_is); (case a_Sum_repr => k_is); (case i_Sum_repr => k_is); (case l_Sum_repr => k_is); (case e_Sum_repr => k_is); (case k_Sum_repr => k_is); (case a_Sum_letters => k_is); (case pg_Sum_letters => k_is); (case pt_Sum_letters => k_is); (case pr_Sum_letters => k_is); (case l_Sum_letters => k_is); (case e_Sum_letters => k_is); (case k_Sum_letters => k_is); (case a_MachineReader => k_is); (case pg_MachineReader => k_is); (case hd_MachineReader => k_is); (case po_MachineReader => k_is); (case sa_MachineReader => k_is); (case mk_MachineReader => k_is); (case kc_MachineReader => k_is); (case ca_MachineReader => k_is); (case cg_MachineReader => k_is); (case ct_MachineReader => k_is); (case ne_MachineReader => k_is); (case tt_MachineReader => k_is); (case cr_MachineReader => k_is); (case ck_MachineReader => k_is); (case nf_MachineReader_own_letters => k_is); (case nf_MachineReader_own_rows => k_is); (case nf_MachineReader_own_kinds => k_is); (case a_MachineReader_init => k_is); (case i_MachineReader_init => k_is); (case l_MachineReader_init => k_is); (case e_MachineReader_init => k_is); (case k_MachineReader_init => k_is); (case a_MachineReader_take => k_is); (case i_MachineReader_take => k_is); (case l_MachineReader_take => k_is); (case e_MachineReader_take => k_is); (case k_MachineReader_take => k_is); (case a_MachineReader_take_place => k_is); (case i_MachineReader_take_place => k_is); (case l_MachineReader_take_place => k_is); (case e_MachineReader_take_place => k_is); (case k_MachineReader_take_place => k_is); (case a_MachineReader_is_lacking => k_is); (case i_MachineReader_is_lacking => k_is); (case l_MachineReader_is_lacking => k_is); (case e_MachineReader_is_lacking => k_is); (case k_MachineReader_is_lacking => k_is); (case a_MachineReader_made => k_is); (case i_MachineReader_made => k_is); (case l_MachineReader_made => k_is); (case e_MachineReader_made => k_is); (case k_MachineReader_made => k_is); (case a_SumReader => k_is); (case pg_SumReader => k_is); (case hd_SumReader => k_is); (case po_SumReader => k_is); (case sa_SumReader => k_is); (case mk_SumReader => k_is); (case kc_SumReader => k_is); (case ca_SumReader => k_is); (case cg_SumReader => k_is); (case ct_SumReader => k_is); (case ne_SumReader => k_is); (case tt_SumReader => k_is); (case cr_SumReader => k_is); (case ck_SumReader => k_is); (case nf_SumReader_own_letters => k_is); (case nf_SumReader_own_told => k_is); (case a_SumReader_init => k_is); (case i_SumReader_init => k_is); (case l_SumReader_init => k_is); (case e_SumReader_init => k_is); (case k_SumReader_init => k_is); (case a_SumReader_take => k_is); (case i_SumReader_take => k_is); (case l_SumReader_take => k_is); (case e_SumReader_take => k_is); (case k_SumReader_take => k_is); (case a_SumReader_take_product => k_is); (case i_SumReader_take_product => k_is); (case l_SumReader_take_product => k_is); (case e_SumReader_take_product => k_is); (case k_SumReader_take_product => k_is); (case a_SumReader_is_lacking => k_is); (case i_SumReader_is_lacking => k_is); (case l_SumReader_is_lacking => k_is); (case e_SumReader_is_lacking => k_is); (case k_SumReader_is_lacking => k_is); (case a_SumReader_made => k_is); (case i_SumReader_made => k_is); (case l_SumReader_made => k_is); (case e_SumReader_made => k_is); (case k_SumReader_made => k_is); (case a_InvalidRow => k_is); (case lc_InvalidRow => k_is); (case ii_InvalidRow => k_is); (case li_InvalidRow => k_is); (case ei_InvalidRow => k_is); (case lk_InvalidRow => k_is); (case v2_InvalidRow => rfl); (case fl_InvalidRow => first | rfl | decide +kernel); (case lcc_InvalidRow => k_is); (case su_InvalidRow => ks_is); (case se_InvalidRow => k_is); (case sb_InvalidRow => k_is); (case op_InvalidRow => k_is); (case tp_InvalidRow => decide +kernel); (case sa_InvalidRow => k_is); (case ti_InvalidRow => k_is); (case kc_InvalidRow => k_is); (case ex_InvalidRow => k_is); (case ty_InvalidRow => k_is); (case ga_InvalidRow => k_is); (case gg_InvalidRow => k_is); (case hdc_InvalidRow => k_is); (case ss_InvalidRow => k_is); (case nf_InvalidRow_row => k_is); (case a_Sum_whole => k_is); (case pr_Sum_whole => k_is); (case l_Sum_whole => k_is); (case e_Sum_whole => k_is); (case k_Sum_whole => k_is); (case xa_InvalidRow => k_is); (case xn_InvalidRow => k_is); (case xt_InvalidRow => k_is); (case xm_InvalidRow => k_is); (case a_PartsError => k_is); (case hd_PartsError => k_is); (case tt_PartsError => k_is); (case su_InvalidRow_PartsError => k_is); (case su_InvalidRow_ValueError => k_is); (case z_ValueError => k_is); (case z_abs => k_is); (case z_all => k_is); (case z_any => k_is); (case z_bool => k_is); (case z_dict => k_is); (case z_divmod => k_is); (case z_enumerate => k_is); (case z_int => k_is); (case z_isinstance => k_is); (case z_len => k_is); (case z_list => k_is); (case z_max => k_is); (case z_min => k_is); (case z_ord => k_is); (case z_property => k_is); (case z_range => k_is); (case z_repr => k_is); (case z_set => k_is); (case z_sorted => k_is); (case z_str => k_is); (case z_super => k_is); (case z_tuple => k_is); (case z_zip => k_is); (case y_SMALL_basics => k_is); (case y_MOST_LETTERS => k_is); (case y_SMALL_products => k_is); (case y_STAR => k_is); (case y_MOST_IN_STAR => k_is); (case y_MOST_PIECES => k_is); (case y_LOST => k_is); (case y_MOST_PARTS_LETTERS => k_is); (case y_MOST_TEXTS => k_is); (case y_MOST_WITHOUT_LETTERS => k_is); (case y_DIGITS => k_is); (case a_KINDS => k_is)
  (case m1 => kernel_rfl)
  (case nT1 => kernel_rfl)
  (case hC1 => kernel_rfl)
  )
