import PyProof.Rows.All
import KE.OsRunLaw
import KE.KNestM
import PySem.Challenge.RW_missedparts_k90_whole_texts_of_machines
import Wide.All
import OpenK.AllK
import Wide.FinOn
import HandS.ForMost
import HandS.SortKw
import HandS.EndTab
import HandS.IsInst
import HandS.StrMore
import HandS.TupLe
import HandS.WideBits
import HandS.Walk
import HandS.Deep
import HandS.ListItems
import HandS.Conv
import HandS.More
import PyProof.ReprRoads
import KE.SortKeyHeap
import KE.KDictCopyH
import PyProof.ReprLen
import KE.DataMinKey
import HandS.Set
import HandS.Strs
import HandS.Property
import HandS.OwnEq
import HandS.FStr
import OpenK.KOps
import OpenK.KMeth
import KE.GoesZip
import KE.GoesMore
import KE.GoesEnum
import KE.KIsAll
import HandS.Replace
import HandS.ClsMeth
import PyProof.StrLawsFirst
import HandS.MakeKwOnly
import KE.KOpsOwn
import HandS.Exc
import HandS.ExcInit
import KE.KExcSuper
import KE.KEqNest
import PyProof.ReprReads
import HandS.SetBool
import HandS.TupSets
import HandS.TryOnly
import HandS.ExcOwn
import HandS.WordsExc
import HandS.ExcField
import HandS.ExcIs
import PyProof.ExcBaseAll.ValueError
import PyProof.ExcBaseAll.RuntimeError
import PyProof.ExcBaseAll.ArithmeticError
import HandS.Lambda
import HandS.Nested
import HandS.TryMany
import PyProof.EqKinds
import HandS.Style
import KE.KStrBytes
import HandS.Codes
import HandS.RaiseMore
set_option Elab.async false
set_option linter.all false
set_option maxRecDepth 100000
set_option maxHeartbeats 4000000
namespace L3
open PySem PySem.W PySem.Calls PyProof.Rows HeadRun
/-- what a hook with tables looks at, off the tree -/
def kmOb (as ts : List Addr) (s : SharedT) : List (Option Obj) × List (Option Obj) := (as.map (getT s), ts.map (getT s))
theorem kmOb_ok {K : Params → Frag} {as : List Addr} {e : ∀ P, as = (K P).map (·.1)} {ts : List Addr} (s : SharedT) : kmOb as ts s = (kmHook K as e ts).obs s.abs :=
  Prod.ext (List.map_congr_left fun a _ => getT_eq s a) (List.map_congr_left fun a _ => getT_eq s a)
theorem map_three {α β γ δ : Type} {o : Option α} {f : α → β} {g : α → γ} {h : α → δ} {b : β} {c : γ} {d : δ}
    (x : o.map f = some b) (y : o.map g = some c) (z : o.map h = some d) : o.map (fun s => (f s, g s, h s)) = some (b, c, d) := by
  cases o with
  | none => cases x
  | some s => cases x; cases y; cases z; rfl
/-- the state behind the top -/
noncomputable abbrev endOf (p : Program) (M : Nat) (w : World) (os : OsState) : Option SharedT := endF (stepQ (denQ tabQ) p w) M p w os
/-- the head by three runs, each checked apart -/
theorem head3 {r : OpenRow} {p q : Program} {H : Hook} {ob : SharedT → H.α} {M : Nat} {loose : List PySem.Str} {d : DefRec} {kwd : List (PySem.Str × PySem.Expr)} (hr : r.prog = p) (hrec : r.toRowW.records = [])
    (ho : ∀ s : SharedT, ob s = H.obs s.abs)
    (e : opening p = plainProg p.main.scope.names) (f : ∀ s, fenceModules? p s = some s)
    (rA : ∀ w os, (endOf p M w os).map (fun s => looksF p (boot_heap w.params) s.abs) = some true)
    (rB : ∀ w os, (endOf p M w os).map (fun s => seenQ q loose (importedModules p.main.body) (fun s => xlAt q [] s && recOk [] s) s.abs) = some (openGood q loose))
    (rC : ∀ w os, (endOf p M w os).map ob = some (H.val w))
    (hdef : defOf q r.name = some (d, kwd)) (hp : r.prog.theDef r.name = some (d.params, d.body, d.scope)) (hk : kwWritten? d.params.kwonlyargs d.params.kw_defaults = some kwd)
    (hwr : (!r.writes || r.records.isEmpty) = true) (k1 : r.wellSaid = true) (ok : (chainsOk q && opensWell r.prog && (frees r.toRowW && r.within.isEmpty)) = true) (hb : r.prog.bare) (hw : r.toRowW.promised)
    (call : WalkO q loose (XL q []) H.says r.toRowW d kwd fun f vs => PySem.call f vs) : r.Holds := by
  subst hr
  refine head_any (M := M) (ob := ob) ho e f (fun w os => ?_) hdef hp hk hwr k1 ok hb hw call
  have z := map_three (rA w os) (rB w os) (rC w os)
  rw [hrec]
  exact z
theorem map_l {α β γ : Type} {o : Option α} {f : α → β} {g : α → γ} {b : β} {c : γ} (x : o.map (fun s => (f s, g s)) = some (b, c)) : o.map f = some b := by
  cases o with
  | none => cases x
  | some s => exact congrArg some (Prod.mk.inj (Option.some.inj x)).1
theorem map_r {α β γ : Type} {o : Option α} {f : α → β} {g : α → γ} {b : β} {c : γ} (x : o.map (fun s => (f s, g s)) = some (b, c)) : o.map g = some c := by
  cases o with
  | none => cases x
  | some s => exact congrArg some (Prod.mk.inj (Option.some.inj x)).2
/-- the looks at the view, one of them -/
noncomputable abbrev seenAt (p q : Program) (l : List PySem.Str) (s : SharedT) := seenQ q l (importedModules p.main.body) (fun s => xlAt q [] s && recOk [] s) s.abs
end L3
namespace Lw
open PySem PySem.W PyProof.Rows HeadRun L3
/-- a program with the last of its top's statements alone -/
def viewFrom (p : Program) (n : Nat) : Program := { p with main := { p.main with body := p.main.body.drop n } }
noncomputable abbrev pz : Program := PySem.Challenge.pw_missedparts_k90_whole_texts_of_machines
noncomputable def qz : Program := viewFrom pz 109
def lz : List PySem.Str := [PySem.Str.ofString "_wall", PySem.Str.ofString "PartsError", PySem.Str.ofString "InvalidText", PySem.Str.ofString "InvalidLetters", PySem.Str.ofString "InvalidLetter", PySem.Str.ofString "InvalidPlace", PySem.Str.ofString "InvalidMachine", PySem.Str.ofString "InvalidSum", PySem.Str.ofString "InvalidRows", PySem.Str.ofString "InvalidKinds", PySem.Str.ofString "InvalidProducts", PySem.Str.ofString "InvalidTexts", PySem.Str.ofString "InvalidRow", PySem.Str.ofString "StateError", PySem.Str.ofString "OtherLetters", PySem.Str.ofString "NotComeTo", PySem.Str.ofString "LimitError", PySem.Str.ofString "TooMany", PySem.Str.ofString "SMALL_basics", PySem.Str.ofString "MOST_LETTERS", PySem.Str.ofString "is_integer", PySem.Str.ofString "is_list", PySem.Str.ofString "is_text", PySem.Str.ofString "are_letters", PySem.Str.ofString "is_text_over", PySem.Str.ofString "want_few", PySem.Str.ofString "is_row", PySem.Str.ofString "want_machine", PySem.Str.ofString "met_from", PySem.Str.ofString "machine_from", PySem.Str.ofString "Machine", PySem.Str.ofString "want_text", PySem.Str.ofString "want_letter", PySem.Str.ofString "want_place", PySem.Str.ofString "want_same", PySem.Str.ofString "want_right", PySem.Str.ofString "led", PySem.Str.ofString "is_taken", PySem.Str.ofString "contrary", PySem.Str.ofString "is_so", PySem.Str.ofString "paired_by", PySem.Str.ofString "numbers_of", PySem.Str.ofString "classes_of", PySem.Str.ofString "least_made", PySem.Str.ofString "least_of", PySem.Str.ofString "made_least", PySem.Str.ofString "SMALL_products", PySem.Str.ofString "STAR", PySem.Str.ofString "MOST_IN_STAR", PySem.Str.ofString "MOST_PIECES", PySem.Str.ofString "LOST", PySem.Str.ofString "is_star", PySem.Str.ofString "letters_in", PySem.Str.ofString "are_rising", PySem.Str.ofString "is_piece", PySem.Str.ofString "is_product", PySem.Str.ofString "is_product_over", PySem.Str.ofString "holds", PySem.Str.ofString "place_behind", PySem.Str.ofString "place_by", PySem.Str.ofString "has_text", PySem.Str.ofString "lies_within", PySem.Str.ofString "reduced_of", PySem.Str.ofString "kept_of", PySem.Str.ofString "met_behind", PySem.Str.ofString "meet_of", PySem.Str.ofString "MOST_PARTS_LETTERS", PySem.Str.ofString "MOST_TEXTS", PySem.Str.ofString "MOST_WITHOUT_LETTERS", PySem.Str.ofString "sum_of", PySem.Str.ofString "meets_of", PySem.Str.ofString "left_behind", PySem.Str.ofString "product_without", PySem.Str.ofString "want_letters", PySem.Str.ofString "want_texts", PySem.Str.ofString "most_letters", PySem.Str.ofString "Sum", PySem.Str.ofString "DIGITS", PySem.Str.ofString "KINDS", PySem.Str.ofString "line_of", PySem.Str.ofString "machine_lines", PySem.Str.ofString "sum_lines", PySem.Str.ofString "text_of", PySem.Str.ofString "bytes_of", PySem.Str.ofString "goal_of", PySem.Str.ofString "MachineReader", PySem.Str.ofString "SumReader", PySem.Str.ofString "read_by", PySem.Str.ofString "read_machine", PySem.Str.ofString "read_sum", PySem.Str.ofString "_law_pot", PySem.Str.ofString "_law_draw", PySem.Str.ofString "_law_pick", PySem.Str.ofString "_law_met", PySem.Str.ofString "_law_lines", PySem.Str.ofString "_law_text", PySem.Str.ofString "_law_line", PySem.Str.ofString "_law_mixed", PySem.Str.ofString "_law_goes", PySem.Str.ofString "_law_asked_right", PySem.Str.ofString "_law_plan", PySem.Str.ofString "_law_right"]
theorem fw {row : String} {p : World → Prop} (h : ∀ (b : Bool) (w : World), p (w.withFollow row b)) : ∀ w, p w := fun w => by
  have := h (w.params.followText row) w
  rwa [World.withFollow_self] at this
theorem head3r {row : String} {r : OpenRow} {p q : Program} {H : Hook} {ob : SharedT → H.α} {M : Nat} {loose : List PySem.Str} {d : DefRec} {kwd : List (PySem.Str × PySem.Expr)} (hr : r.prog = p) (hrec : r.toRowW.records = [])
    (ho : ∀ s : SharedT, ob s = H.obs s.abs)
    (e : opening p = plainProg p.main.scope.names) (f : ∀ s, fenceModules? p s = some s)
    (rA : ∀ w os, (endOf p M w os).map (fun s => looksF p (boot_heap w.params) s.abs) = some true)
    (rB : ∀ w os, (endOf p M w os).map (fun s => seenQ q loose (importedModules p.main.body) (fun s => xlAt q [] s && recOk [] s) s.abs) = some (openGood q loose))
    (rC : ∀ (w : World) os, (endOf p M (w.withFollow row false) os).map ob = some (H.val w))
    (hdef : defOf q r.name = some (d, kwd)) (hp : r.prog.theDef r.name = some (d.params, d.body, d.scope)) (hk : kwWritten? d.params.kwonlyargs d.params.kw_defaults = some kwd)
    (hwr : (!r.writes || r.records.isEmpty) = true) (k1 : r.wellSaid = true) (ok : (chainsOk q && opensWell r.prog && (frees r.toRowW && r.within.isEmpty)) = true) (hb : r.prog.bare) (hw : r.toRowW.promised)
    (call : (∀ (w : World) os, (endOf p M (w.withFollow row true) os).map ob = some (H.val w)) ∧ WalkO q loose (XL q []) H.says r.toRowW d kwd fun f vs => PySem.call f vs) : r.Holds :=
  head3 hr hrec ho e f rA rB (fun w os => by
    have h : ∀ b, (endOf p M (w.withFollow row b) os).map ob = some (H.val w) := fun b => by cases b; exact rC w os; exact call.1 w os
    have := h (w.params.followText row)
    rwa [World.withFollow_self] at this) hdef hp hk hwr k1 ok hb hw call.2
theorem hdAf : ∀ (w : World) os, (endOf pz 19014 (w.withFollow "special-get-raises" false) os).map (fun s => (looksF pz (boot_heap (w.withFollow "special-get-raises" false).params) s.abs, seenAt pz qz lz s)) = some (true, openGood qz lz) := by
  intro w os; kernel_rfl
theorem hdAt : ∀ (w : World) os, (endOf pz 19014 (w.withFollow "special-get-raises" true) os).map (fun s => (looksF pz (boot_heap (w.withFollow "special-get-raises" true).params) s.abs, seenAt pz qz lz s)) = some (true, openGood qz lz) := by
  intro w os; kernel_rfl
theorem hdA : ∀ w os, (endOf pz 19014 w os).map (fun s => (looksF pz (boot_heap w.params) s.abs, seenAt pz qz lz s)) = some (true, openGood qz lz) := by
  refine fw (row := "special-get-raises") (fun b w => ?_); intro os; cases b; exact hdAf w os; exact hdAt w os
local macro_rules | `(tactic| o_head ($f $k $a $e $t)) => `(tactic| (
  refine' head3r (row := "special-get-raises") (p := pz) (q := qz) (loose := lz) (M := 19014) (H := $f $k $a $e $t) (ob := kmOb $a $t) rfl rfl (fun s => kmOb_ok s) ?e ?f (fun w os => map_l (hdA w os)) (fun w os => map_r (hdA w os)) ?rC (by rfl) (by rfl) (by rfl) (by rfl) (by first | assumption | decide +kernel) (by decide +kernel) ⟨rfl, rfl, rfl, rfl, rfl, by decide +kernel⟩ ?hw ?hc
  (case e => kernel_rfl)
  (case f => intro s; kernel_rfl)
  (case rC => intro w os; kernel_rfl)))
set_option maxHeartbeats 0 in
open_top hd0 for PySem.Challenge.rw_missedparts_k90_whole_texts_of_machines
def hd := fun h => hd0 ⟨(by intro w os; kernel_rfl), h⟩
end Lw
namespace L3
open PySem PySem.Spec PyProof.Rows L2
/-- as FnOk, where no guard stands around -/
structure FnOkG (P : Program) (w : World) (K : PySem.W.Frag) (mg : Str → Option Value) (base : Heap) (CX : CXT) (k : Nat) (f : Addr) (fd : FuncData) (ps : List Str) (sp : Sp) : Prop where
  len : ∀ vs H Q E, sp vs H Q E → vs.length = ps.length
  run : ∀ (A : Around) (outer : List Env) (s : Shared) (H : Hp) (args : Args) (us : List Value) (vs : List V) (Q : VK) (E : XK), Room k A → A.guards = some [] → Env0 P w K mg base A outer s H → BindsTo s fd args (ps.zip us) → Vals vs us → sp vs H Q E →
    codeAny (model P w) A (.call (.ref f) args) (CR CX outer P w H s Q E) s
theorem FnOkG.of {P : Program} {w : World} {K : PySem.W.Frag} {mg : Str → Option Value} {base : Heap} {CX : CXT} {k : Nat} {f : Addr} {fd : FuncData} {ps : List Str} {sp : Sp} (F : FnOk P w K mg base CX k f fd ps sp) : FnOkG P w K mg base CX k f fd ps sp :=
  ⟨F.len, fun A outer s H args us vs Q E hr _ => F.run A outer s H args us vs Q E hr⟩
theorem FnOkG.mono {P : Program} {w : World} {K : PySem.W.Frag} {mg : Str → Option Value} {base : Heap} {CX : CXT} {j k : Nat} {f : Addr} {fd : FuncData} {ps : List Str} {sp : Sp} (F : FnOkG P w K mg base CX j f fd ps sp) (h : j ≤ k) : FnOkG P w K mg base CX k f fd ps sp :=
  ⟨F.len, fun A outer s H args us vs Q E hr => F.run A outer s H args us vs Q E (hr.mono h)⟩
section
variable {P : Program} {w : World} {K : PySem.W.Frag} {mg : Str → Option Value} {base : Heap}
theorem fn_ofG {CX : CXT} {k : Nat} {f : Addr} {name qual : Str} {params : Arguments} {body : List Stmt} {scope : Scope} {dV kV doc pm cdv ct oc : Value} {an od : Option Addr}
    {osl : Array (Option Value)} {N ps : List Str} {sp : Sp} (lk : K.lookup f = some ⟨oc, od, .func (PySem.W.fnOf name qual params body scope dV kV doc pm an cdv ct), osl⟩) (hcd : PySem.W.codeIn K cdv qual = true) (S : FnScope N ps scope)
    (len : ∀ vs H Q E, sp vs H Q E → vs.length = ps.length)
    (hbody : ∀ (A : Around) (outer : List Env) (s : Shared) (H : Hp) (vs : List V) (Q : VK) (E : XK), Room k (A.deeper (envOfC qual scope s.heap.objs.size f cdv)) → A.guards = some [] → sp vs H Q E →
      ∃ t, PSs (cxOf CX P w K mg base N qual scope f cdv A outer s H E) body t ∧ t { nx := fun _ H' => Q .non H', rt := Q } (L2.start N vs) H) :
    FnOkG P w K mg base CX (k + 1) f (PySem.W.fnOf name qual params body scope dV kV doc pm an cdv ct) ps sp := by
  refine ⟨len, fun A outer s H args us vs Q E hr hg e0 hb r hsp => ?_⟩
  exact LamX.run_ofS lk hcd S hr e0 hb r (len _ _ _ _ hsp) fun hr' => hbody A outer s H vs Q E hr' hg hsp
theorem okG {x qual : Str} {st : Stmt} {f : Addr} {fd : FuncData} {N ps : List Str} {k : Nat} {sp : Sp} (F : Fun K x qual st f fd) (S : FnScope N ps (defScope st)) (len : ∀ vs H Q E, sp vs H Q E → vs.length = ps.length)
    (hbody : ∀ (cdv : Value) (A : Around) (outer : List Env) (s : Shared) (H : Hp) (vs : List V) (Q : VK) (E : XK), Room k (A.deeper (envOfC qual (defScope st) s.heap.objs.size f cdv)) → A.guards = some [] → sp vs H Q E →
      ∃ t, PSs (cxOf CX0 P w K mg base N qual (defScope st) f cdv A outer s H E).nox (defBody st) t ∧ t { nx := fun _ H' => Q .non H', rt := Q } (L2.start N vs) H) : FnOkG P w K mg base CX0 (k + 1) f fd ps sp := by
  obtain ⟨oc, od, kV, doc, pm, an, cdv, ct, osl, rfl, lk, hcd⟩ := F.ex
  refine fn_ofG lk hcd S len fun A outer s H vs Q E hr hg hsp => ?_
  obtain ⟨t, h, q⟩ := hbody cdv A outer s H vs Q E hr hg hsp
  exact ⟨t, h.nox, q⟩
end
section
variable {X : Cx} {CX : CXT} {k : Nat} {f : Addr} {fd : FuncData} {ps ks : List Str} {sp : Sp} {E : XK} {x : Str} {p pos : Pos} {e : Expr} {es : List Expr} {kws : List Keyword} {t tk : TA} {g : List Value → List Value → List Value} {gV : List V → List V → List V}
theorem run_fnG {pins : List (Addr × Obj)} {σ : L2.St} {H : Hp} {s : Shared} {Q : VK} {us ws : List Value} {vs : List V} {kw : List (Str × Value)} (F : FnOkG X.prog X.w X.K X.mg X.base CX k f fd ps sp) (hr : Room k X.A) (hG : X.A.guards = some []) (hx : Passes CX X E)
    (I : Inv X pins σ H s) (hb : BindsTo s fd ⟨us, kw⟩ (ps.zip ws)) (r : Vals vs ws) (h : sp vs H Q E) : wpAny (model X.prog X.w) X.A (call (.ref f) us kw) (EP X pins σ Q) X.xe s := by
  refine wpAny_call (codeAny_mono (F.run X.A X.stack s H ⟨us, kw⟩ ws vs Q E hr hG I.env0 hb r h) fun r s' hq => ?_)
  cases r with
  | error e => exact hx pins σ H s e s' I hq
  | ok fl =>
    cases fl with
    | ret u => exact I.after hq
    | next => exact False.elim hq
    | brk => exact False.elim hq
    | cont => exact False.elim hq
/-- f(e, ..) -/
theorem pe_callG (F : FnOkG X.prog X.w X.K X.mg X.base CX k f fd ps sp) (hr : Room k X.A) (hG : X.A.guards = some []) (hg : Gl X x) (hm : X.mg x = some (.ref f)) (hk : PySem.W.keepIn X.K (.ref f) = true) (hb : L2.Binds X.K fd ps []) (hx : Passes CX X E)
    (ha : PA X (e :: es) t) (hdb : (x == ("__debug__" : Str)) = false := by decide) (he : starEach (e :: es) X.env = (false, eval e X.env) :: starEach es X.env := by rfl) (hpl : (backTo pos (starEach es X.env)).any (·.1) = false := by rfl) :
    PE X (.Call (.Name x p) (e :: es) [] pos) (tCall sp [] E t) := by
  refine ⟨fun pins s σ H Q I h => ?_⟩
  refine wpAny_Call_Name_kw (ld_glob I hg hm ?_ hdb)
  refine PySem.W.callWith_K (h₀ := X.base) I.ok.mod.kin hk (thn (ha.run pos pins s σ H _ I h) fun us s1 ⟨vs, H1, I1, r, q⟩ => ⟨I1.kIn, ?_⟩) he hpl
  have q : sp (vs ++ []) H1 Q E := q
  rw [List.append_nil] at q
  have hl : (us ++ []).length = ps.length := by rw [List.append_nil, ← r.length]; exact F.len _ _ _ _ q
  exact run_fnG F hr hG hx I1 (hb s1 us I1.kIn hl) (by rw [List.append_nil]; exact r) q
/-- f(k = v, ..), keywords alone -/
theorem pe_callK0 (F : FnOkG X.prog X.w X.K X.mg X.base CX k f fd ps sp) (hr : Room k X.A) (hG : X.A.guards = some []) (hg : Gl X x) (hm : X.mg x = some (.ref f)) (hk : PySem.W.keepIn X.K (.ref f) = true) (hb : KBinds X.K fd ps ks g gV) (hx : Passes CX X E)
    (hkw : PK X kws tk) (hall : (backToKw pos (keywordEach kws X.env)).all (·.1.isSome) = true := by rfl) (hks : (backToKw pos (keywordEach kws X.env)).filterMap (·.1) = ks := by rfl)
    (hdb : (x == ("__debug__" : Str)) = false := by decide)
    (hpl : ((backTo pos (starEach [] X.env)).any (·.1) || (backToKw pos (keywordEach kws X.env)).any (·.1.isNone)) = false := by rfl) :
    PE X (.Call (.Name x p) [] kws pos) (tCallK sp gV E tNil tk) := by
  refine ⟨fun pins s σ H Q I h => ?_⟩
  refine wpAny_Call_Name_kw (ld_glob I hg hm ?_ hdb)
  refine PySem.W.callWith_KW0 (h₀ := X.base) I.ok.mod.kin hk hall (thn (hkw.run pos pins s σ H _ I h) fun ws s2 ⟨zs, H2, I2, rz, q2⟩ => ⟨I2.kIn, ?_⟩) hpl
  rw [hks]
  have r2 := hb.rel (vs := []) (us := []) .nil rz
  have hl : (g [] ws).length = ps.length := by rw [← r2.length]; exact F.len _ _ _ _ q2
  exact run_fnG F hr hG hx I2 (hb.to s2 [] ws I2.kIn hl) r2 q2
end
end L3
namespace L3
open PySem PySem.Spec PyProof.Rows L2
/-- a text by its codes -/
abbrev tS (l : List Nat) : Str := ⟨l.toArray⟩
abbrev tx (l : List Nat) : V := .str (tS l)
theorem tS_len (l : List Nat) : (tS l).length = l.length := by show l.toArray.size = _; simp
theorem tS_inj {a b : List Nat} (h : tS a = tS b) : a = b := by
  have h2 : a.toArray = b.toArray := congrArg Str.cps h
  simpa using congrArg Array.toList h2
theorem tS_app (a b : List Nat) : tS a ++ tS b = tS (a ++ b) := by
  show (⟨a.toArray ++ b.toArray⟩ : Str) = _
  simp
theorem tx_inj {a b : List Nat} (h : tx a = tx b) : a = b := tS_inj (V.str.inj h)
theorem tx_dec (a b : List Nat) : decide (tx a = tx b) = decide (a = b) := by
  by_cases e : a = b
  · subst e; simp
  · rw [decide_eq_false e, decide_eq_false fun h => e (tx_inj h)]
section
variable {X : Cx}
theorem op_addT : OpR X (binaryOp .Add) (fun x y H Q => ∃ a b, x = tx a ∧ y = tx b ∧ a.length + b.length ≤ sizeLine ∧ Q (tx (a ++ b)) H) := by
  intro pins s σ H x y v u Q I rx ry h
  obtain ⟨a, b, rfl, rfl, hz, q⟩ := h
  exact op_add_str pins s σ H _ _ v u Q I rx ry ⟨_, _, rfl, rfl, by rw [tS_len, tS_len]; exact hz, by rw [tS_app]; exact q⟩
theorem cut_pre (l : List Nat) (i : Nat) : cutS (tS l) none (some (i : Int)) = tS (l.take i) := by
  unfold cutS
  rw [HT.sIx_none, HT.sIx_nat, tS_len]
  show tS _ = _
  congr 1
  show (List.drop 0 l).take (min i l.length - 0) = l.take i
  rw [List.drop_zero, Nat.sub_zero]
  by_cases h : i ≤ l.length
  · rw [Nat.min_eq_left h]
  · rw [Nat.min_eq_right (by omega), List.take_of_length_le (Nat.le_refl _), List.take_of_length_le (by omega)]
theorem cut_suf (l : List Nat) (i : Nat) : cutS (tS l) (some (i : Int)) none = tS (l.drop i) := by
  unfold cutS
  rw [HT.sIx_none, HT.sIx_nat, tS_len]
  show tS _ = _
  congr 1
  show (List.drop (min i l.length) l).take (l.length - min i l.length) = l.drop i
  by_cases h : i ≤ l.length
  · rw [Nat.min_eq_left h, List.take_of_length_le (by rw [List.length_drop]; exact Nat.le_refl _)]
  · rw [Nat.min_eq_right (by omega), List.drop_of_length_le (Nat.le_refl _), List.drop_of_length_le (by omega)]
    simp
def rSlT' : V → Option Int → Option Int → Hp → VK → Prop := fun x lo hi H Q => ∃ l, x = tx l ∧ l.length ≤ sizeLine ∧
  ((lo = none ∧ ∃ i : Nat, hi = some (i : Int) ∧ Q (tx (l.take i)) H) ∨ (hi = none ∧ ∃ i : Nat, lo = some (i : Int) ∧ Q (tx (l.drop i)) H))
theorem sl_tx : SlR X rSlT' := by
  intro pins s σ H x v vl vu lo hi sl Q I rx hs pl pu h
  obtain ⟨l, rfl, hz, h⟩ := h
  refine sl_str pins s σ H _ v vl vu lo hi sl Q I rx hs pl pu ⟨_, rfl, by rw [tS_len]; exact hz, ?_⟩
  rcases h with ⟨rfl, i, rfl, q⟩ | ⟨rfl, i, rfl, q⟩
  · rw [cut_pre]; exact q
  · rw [cut_suf]; exact q
end
end L3
namespace L3
open PySem PySem.Spec PyProof.Rows L2
mutual
theorem dp_noDict {K : PySem.W.Frag} {H : Hp} : ∀ {v : V} {d : PyData}, Dp K H v d → d.hasDict = false
  | _, .none, _ => by simp only [PyData.hasDict]
  | _, .bool _, _ => by simp only [PyData.hasDict]
  | _, .int _, _ => by simp only [PyData.hasDict]
  | _, .str _, _ => by simp only [PyData.hasDict]
  | _, .list ds, h => by
    cases h with
    | lst hs ha => simp only [PyData.hasDict]; exact dpAll_noDict ha
  | _, .tuple ds, h => by
    cases h with
    | tup hs ha => simp only [PyData.hasDict]; exact dpAll_noDict ha
  | _, .dict _, h => by cases h
theorem dpAll_noDict {K : PySem.W.Frag} {H : Hp} : ∀ {vs : List V} {ds : List PyData}, DpAll K H vs ds → PyData.hasDictAll ds = false
  | _, [], _ => by simp only [PyData.hasDictAll]
  | _, d :: ds, h => by
    cases h with
    | cons h1 h2 => simp only [PyData.hasDictAll, dp_noDict h1, dpAll_noDict h2, Bool.or_self]
end
theorem len_toL (acc : Array Value) : acc.toList.length = acc.size := by simp
section
variable {X : Cx}
/-- repr(x) of data: none, bools, ints, texts, lists, tuples -/
def rRepr (K : PySem.W.Frag) : List V → Hp → VK → Prop := fun xs H Q => ∃ (x : V) (d : PyData), xs = [x] ∧ Dp K H x d ∧ d.showable = true ∧ d.shown.length ≤ sizeLine ∧ d.depth ≤ 50 ∧ Q (.str d.shown) H
theorem call_reprD {k : Nat} (hr : Room k X.A) (hG : X.A.guards = some []) : CallR X (.builtin "repr") (rRepr X.K) := by
  intro pins s σ H xs us Q I r h
  obtain ⟨x, d, rfl, hd, hs, hz, hdp, q⟩ := h
  obtain ⟨u, rfl, rx⟩ := vals1 r
  have hu := hr.units
  cases hd with
  | non => cases rx; exact P.repr_of_none ⟨.str _, H, I.tok _, ⟨_, rfl⟩, q⟩
  | bl b => cases rx; exact P.repr_of_bool ⟨.str _, H, I.tok _, ⟨_, rfl⟩, q⟩
  | int i =>
    obtain ⟨t, rfl⟩ := rx
    have hs' : i.natAbs.log2 < 1920 := by simpa [PyData.showable] using hs
    exact P.repr_of_int hs' ⟨.str _, H, I.tok _, ⟨_, rfl⟩, q⟩
  | str z =>
    obtain ⟨t, rfl⟩ := rx
    exact P.repr_of_str ⟨.str _, H, I.tok _, ⟨_, rfl⟩, q⟩ hz
  | @lst a xs ds hq ha =>
    cases rx
    obtain ⟨as, hR⟩ := Dp.reads I (.list ds) (.ref a) (.ref a) (.lst hq ha) rfl
    refine repr_of_reads' hR hs (PyData.noDict_hsm (dp_noDict (K := X.K) (H := H) (.lst hq ha))) hG (by omega) (fun _ _ e => e) (fun h' t tk hk => ?_) hz
    exact ⟨.str _, H, I.kept hk, ⟨_, rfl⟩, q⟩
  | @tup a xs ds hq ha =>
    cases rx
    obtain ⟨as, hR⟩ := Dp.reads I (.tuple ds) (.ref a) (.ref a) (.tup hq ha) rfl
    refine repr_of_reads' hR hs (PyData.noDict_hsm (dp_noDict (K := X.K) (H := H) (.tup hq ha))) hG (by omega) (fun _ _ e => e) (fun h' t tk hk => ?_) hz
    exact ⟨.str _, H, I.kept hk, ⟨_, rfl⟩, q⟩
/-- list(text) -/
theorem call_listT (hc : X.calm = true) : CallR X (.type "list") (fun xs H Q => ∃ l, xs = [tx l] ∧ l.length ≤ sizeLine ∧ ∀ p, H p = none → Q (.ref p) (upd H p (.lst (l.map fun c => tx [c])))) := by
  intro pins s σ H xs us Q I r h
  obtain ⟨l, rfl, hz, q⟩ := h
  obtain ⟨u, rfl, rx⟩ := vals1 r
  obtain ⟨t, rfl⟩ := rx
  refine call_list_str (I.ok.hd hc) (tS l) t (fun h' tk acc c hk hS hacc => ?_) (by show l.toArray.size ≤ _; simpa using hz)
  have hl : acc.size = l.length := by rw [hacc.1]; simp [tS]
  have hv : Vals (l.map fun c => tx [c]) acc.toList := vals_of_at (by rw [List.length_map, len_toL, hl]) fun j x w h1 h2 => by
    obtain ⟨c, t, e1, e2⟩ := hacc.2 j w (by rw [← Array.getElem?_toList]; exact h2)
    have e3 : l[j]? = some c := by simpa [tS] using e1
    rw [List.getElem?_map, e3] at h1
    cases h1
    subst e2
    exact ⟨t, rfl⟩
  exact ⟨.ref s.heap.objs.size, upd H s.heap.objs.size (.lst (l.map fun c => tx [c])), I.laid (t' := tk) hk (Nat.le_refl _)
    (show ObjOk X.prog X.w _ _ _ (.lst (l.map fun c => tx [c])) from ⟨by rw [List.length_map]; exact hz, acc.toList, c, hv, by rw [Array.toArray_toList]; exact hS⟩), rfl, q _ (I.hok.fresh (Nat.le_refl _))⟩
end
end L3
namespace L3
open PySem PySem.Spec PyProof.Rows L2
end L3
namespace L3
open PySem PySem.Spec PyProof.Rows L2
end L3
namespace L3
open PySem PySem.Spec PyProof.Rows L2
end L3
namespace L3
open PySem PySem.Spec PyProof.Rows L2
end L3
namespace L3
open PySem PySem.Spec PyProof.Rows L2
/-- the tracked heap at the law's call: the script (locked), where it is not written, and the tables -/
def H0 (K : PySem.W.Frag) (a : Addr) (vs : List Value) (ns : List Int) (cs : List (Addr × Addr)) : Hp := fun b =>
  if b = a then (if (K.lookup a).isSome then none else some (.frz { cls := .type "list", data := .seq vs.toArray } (.lst (ns.map V.int)))) else if b ∈ cs.map (·.2) then some (.tbl #[]) else none
theorem law_callG {P : Program} {w : World} {K : PySem.W.Frag} {mg mb : Str → Option Value} {k : Nat} {fa a : Addr} {cs : List (Addr × Addr)} {fd : FuncData} {x : Str} {sp : Sp} {s₁ : Shared} {vs : List Value} {ns : List Int}
    (KX : K.In s₁.heap) (hns : s₁.heap.Ns mainGlobals mg) (hb : s₁.heap.Ns builtinsNs mb) (hbb : ∀ x : Str, x ≠ "__name__" → mb x = bootBuiltins x) (hlim : s₁.heap.NoLimit) (hg : s₁.gens = #[])
    (hT : ∀ p ∈ cs, s₁.heap.get? p.2 = some { cls := .none, data := .fields #[] }) (nT : ∀ p ∈ cs, K.lookup p.2 = none) (C : ∀ p ∈ cs, PySem.W.CodeHd s₁.heap p.1 p.2)
    (hbm : ∃ (bm : Addr) (ob : Obj), mg "__builtins__" = some (.ref bm) ∧ bm ≠ builtinsNs ∧ s₁.heap.get? bm = some ob ∧ ob.cls = .type "module" ∧ ob.dict = some builtinsNs ∧ ob.data = .plain)
    (ha : s₁.heap.get? a = some { cls := .type "list", data := .seq vs.toArray }) (hi : IntsAre vs ns) (hl : ns.length ≤ sizeLine) (hr : Room k callerA)
    (F : ∀ base : Heap, K.In base → base.Ns mainGlobals mg → (∀ p ∈ cs, LamX.TabB base mg p.1 p.2) → FnOkG P w K mg base CX0 k fa fd [x] sp) (hbind : L2.Binds K fd [x] [])
    (hsp : ∀ H : Hp, (∀ p ∈ cs, H p.2 = some (.tbl #[])) → SqL K H a (ns.map V.int) → sp [.ref a] H (fun v _ => v = .bl true) fun _ _ _ => False) :
    codeAny (model P w) callerA (.call (.ref fa) ⟨[.ref a], []⟩) (fun r s' => r = .ok (.ret (.bool true)) ∧ OldK s₁.heap s'.heap ∧ s'.os = s₁.os ∧ AllBare s'.gens) s₁ := by
  have rv := vals_ints hi
  have lenV := hi.length
  have isT : ∀ b : Addr, b ∈ cs.map (·.2) → s₁.heap.get? b = some { cls := .none, data := .fields #[] } := fun b hb => by
    obtain ⟨p, hp, e⟩ := List.mem_map.mp hb
    rw [← e]; exact hT p hp
  have aT : a ∉ cs.map (·.2) := fun z => by
    have q := isT a z
    rw [ha] at q
    cases congrArg Obj.data (Option.some.inj q)
  have memT : ∀ p ∈ cs, p.2 ∈ cs.map (·.2) := fun p hp => List.mem_map.mpr ⟨p, hp, rfl⟩
  -- the three cases of H0
  have hcase : ∀ b, (b = a ∧ H0 K a vs ns cs b = none ∧ (K.lookup a).isSome = true) ∨ (b = a ∧ K.lookup a = none ∧ H0 K a vs ns cs b = some (.frz { cls := .type "list", data := .seq vs.toArray } (.lst (ns.map V.int)))) ∨
      (b ≠ a ∧ b ∈ cs.map (·.2) ∧ H0 K a vs ns cs b = some (.tbl #[])) ∨ (b ≠ a ∧ b ∉ cs.map (·.2) ∧ H0 K a vs ns cs b = none) := fun b => by
    unfold H0
    by_cases e : b = a
    · rw [if_pos e]
      cases hk : K.lookup a with
      | some o => exact .inl ⟨e, rfl, rfl⟩
      | none => exact .inr (.inl ⟨e, rfl, rfl⟩)
    · rw [if_neg e]
      by_cases e2 : b ∈ cs.map (·.2)
      · rw [if_pos e2]; exact .inr (.inr (.inl ⟨e, e2, rfl⟩))
      · rw [if_neg e2]; exact .inr (.inr (.inr ⟨e, e2, rfl⟩))
  have tabAt : ∀ p ∈ cs, H0 K a vs ns cs p.2 = some (.tbl #[]) := fun p hp => by
    rcases hcase p.2 with ⟨e, _⟩ | ⟨e, _⟩ | ⟨_, _, z⟩ | ⟨_, n, _⟩
    · exact absurd (e ▸ memT p hp) aT
    · exact absurd (e ▸ memT p hp) aT
    · exact z
    · exact absurd (memT p hp) n
  have free : ∀ {b : Addr} {o : Obj}, s₁.heap.get? b = some o → (∀ vs n, o.data ≠ .seq vs n) → o.data ≠ .fields #[] → H0 K a vs ns cs b = none := fun {b o} e h1 h2 => by
    rcases hcase b with ⟨_, z, _⟩ | ⟨e', _⟩ | ⟨_, e', _⟩ | ⟨_, _, z⟩
    · exact z
    · rw [e', ha] at e
      cases e
      exact absurd rfl (h1 _ _)
    · rw [isT b e'] at e
      cases e
      exact absurd rfl h2
    · exact z
  have nsK : ∀ {b : Addr} {m : Str → Option Value}, s₁.heap.Ns b m → (hidT s₁.heap (H0 K a vs ns cs)).Ns b m := fun {b m} ⟨o, es, ep, e, d, r⟩ =>
    ⟨o, es, ep, hidT_get e (free e (fun vs n z => by rw [d] at z; cases z) fun z => by rw [d] at z; cases z), d, r⟩
  have hKb : K.In (hidT s₁.heap (H0 K a vs ns cs)) := fun b o e => hidT_get (KX b o e) (by
    rcases hcase b with ⟨_, z, _⟩ | ⟨e', n, _⟩ | ⟨_, e', _⟩ | ⟨_, _, z⟩
    · exact z
    · rw [e', n] at e; cases e
    · obtain ⟨p, hp, ep⟩ := List.mem_map.mp e'
      rw [← ep, nT p hp] at e
      cases e
    · exact z)
  have hM : L2.Mod K mg (hidT s₁.heap (H0 K a vs ns cs)) := ⟨hKb, nsK hns, ⟨mb, nsK hb, hbb⟩, let ⟨mc, h1, h2⟩ := hlim; ⟨mc, nsK h1, h2⟩⟩
  have TB : ∀ p ∈ cs, LamX.TabB (hidT s₁.heap (H0 K a vs ns cs)) mg p.1 p.2 := fun p hp => by
    have hTp := hT p hp
    refine ⟨?_, ?_, fun z => ?_⟩
    · obtain ⟨o, us, file, tf, flags, tg, inF, text, tt, e1, r1, r2, r3, r⟩ := C p hp
      refine ⟨o, us, file, tf, flags, tg, inF, text, tt, hidT_get e1 (free e1 (fun vs n z => by rw [r2] at z; cases z) fun z => ?_), r1, r2, r3, r⟩
      rw [r2] at z
      cases z
      simp at r3
    · obtain ⟨bm, ob, b1, b2, b3, b4, b5, b6⟩ := hbm
      refine ⟨bm, ob, b1, b2, fun q => ?_, fun q => ?_, hidT_get b3 (free b3 (fun vs n z => by rw [b6] at z; cases z) fun z => by rw [b6] at z; cases z), b4, b5, b6⟩
      · obtain ⟨o, es, ep, e, hd, _⟩ := hns
        rw [q, e] at b3
        cases b3
        rw [hd] at b6
        cases b6
      · rw [q, hTp] at b3
        cases b3
        cases b6
    · obtain ⟨o, es, ep, e, hd, _⟩ := hns
      rw [z, hTp] at e
      cases e
      cases hd
  have hok : HOk P w (H0 K a vs ns cs) s₁.heap := fun b u z => by
    rcases hcase b with ⟨_, n, _⟩ | ⟨e', _, q⟩ | ⟨_, e', q⟩ | ⟨_, _, n⟩
    · rw [n] at z; cases z
    · rw [q] at z
      cases z
      rw [e']
      exact ⟨ha, by rw [List.length_map]; exact hl, vs, _, rv, ha⟩
    · rw [q] at z
      cases z
      exact isT b e'
    · rw [n] at z; cases z
  have hS : SqL K (H0 K a vs ns cs) a (ns.map V.int) := by
    rcases hcase a with ⟨_, _, hk⟩ | ⟨_, _, q⟩ | ⟨n, _⟩ | ⟨n, _⟩
    · obtain ⟨o, hk⟩ := Option.isSome_iff_exists.mp hk
      have e := KX a o hk
      rw [ha] at e
      cases e
      exact .inr ⟨_, vs.toArray, _, hk, rfl, rfl, rfl, by rw [List.size_toArray, lenV]; exact hl, by simpa using rv⟩
    · exact .inl (.inr ⟨_, q⟩)
    · exact absurd rfl n
    · exact absurd rfl n
  have e0 : Env0 P w K mg (hidT s₁.heap (H0 K a vs ns cs)) callerA [] s₁ (H0 K a vs ns cs) := ⟨rfl, hM, fun b o e => of_hidT e, Nat.le_of_eq (hidT_size _ _), trivial, fun b hb => absurd (show b ∈ ([] : List Addr) from hb) (by simp), hok, .of_eq hg⟩
  refine codeAny_mono ((F _ hKb (nsK hns) TB).run callerA [] s₁ (H0 K a vs ns cs) ⟨[.ref a], []⟩ [.ref a] [.ref a] _ _ hr rfl e0 (hbind s₁ [.ref a] KX rfl) (.cons rfl .nil) (hsp _ tabAt hS)) fun r s' h => ?_
  cases r with
  | error e => exact (show False from h).elim
  | ok fl =>
    cases fl with
    | next => exact False.elim h
    | brk => exact False.elim h
    | cont => exact False.elim h
    | ret u =>
      obtain ⟨v, H', os, bare, un, hok', r', q⟩ := h
      have q' : v = .bl true := q
      subst q'
      obtain rfl : u = Value.bool true := r'
      have key : ∀ b o, b ∉ cs.map (·.2) → s₁.heap.get? b = some o → s'.heap.get? b = some o := fun b o nb e => by
        rcases hcase b with ⟨_, n, _⟩ | ⟨_, _, z⟩ | ⟨_, e', _⟩ | ⟨_, _, n⟩
        · exact un.keep b o e n (fun z => absurd (show b ∈ ([] : List Addr) from z) (by simp)) (by simp)
        · have z2 := un.frzs b _ _ z
          obtain ⟨e1, _⟩ := hok b _ z
          obtain ⟨e2, _⟩ := hok' b _ z2
          rw [e] at e1
          cases e1
          exact e2
        · exact absurd e' nb
        · exact un.keep b o e n (fun z => absurd (show b ∈ ([] : List Addr) from z) (by simp)) (by simp)
      have grown : ∀ p ∈ cs, ∃ more : Array Value, s'.heap.get? p.2 = some { cls := .none, data := .fields more } := fun p hp => by
        obtain ⟨more, z⟩ := un.tbls p.2 #[] (tabAt p hp)
        exact ⟨_, hok' p.2 _ z⟩
      refine ⟨rfl, ⟨fun b o e => ?_, fun b o e => ?_⟩, os, bare⟩
      · by_cases hb : b ∈ cs.map (·.2)
        · obtain ⟨p, hp, ep⟩ := List.mem_map.mp hb
          obtain ⟨more, hm⟩ := grown p hp
          rw [← ep] at e ⊢
          rw [hT p hp] at e
          cases e
          exact .inr (.inl ⟨((C p hp).tab (hT p hp)).isCodeTable, rfl, #[], more, rfl, by rw [Array.empty_append]; exact hm⟩)
        · exact .inl (key b o hb e)
      · by_cases hb : b ∈ cs.map (·.2)
        · obtain ⟨p, hp, ep⟩ := List.mem_map.mp hb
          obtain ⟨more, hm⟩ := grown p hp
          rw [← ep]
          exact ⟨_, hm⟩
        · exact ⟨o, key b o hb e⟩
end L3
namespace L3
open PySem PySem.Spec PyProof.Rows L2
theorem same_upd {H : Hp} {p : Addr} {o : HO} (h : H p = none) : Same H (upd H p o) := fun b x e => by
  rw [upd_ne (ne_of_none e h)]
  exact e
theorem same_up {H H' : Hp} {p : Addr} {o : HO} (s : Same H H') (h : H p = none) : Same H (upd H' p o) := fun b x e => by
  rw [upd_ne (ne_of_none e h)]
  exact s b x e
/-- a comprehension: R of the heap, A of the list so far -/
theorem lc_gen {J : It} {n : Nat} {G : Hp → Prop} {Y : Nat → Hp → V → Hp → Prop} (w : Walk J n G Y) {g : TG} {tt : TT} {te : TE} {vs : List Nat} {σ : L2.St} {H1 : Hp} {D : Addr} {Qd : Hp → Prop} (R : Hp → Prop) (A : Nat → List V → Prop) (hz : n ≤ sizeLine) (hA : ∀ i acc, A i acc → acc.length ≤ i)
    (h0 : A 0 []) (r0 : R (upd H1 D (.lst []))) (r1 : ∀ H x, R H → R (upd H D x)) (hG : ∀ H, R H → G H)
    (hs : ∀ i x H H' acc (C : VK) (N : Hp → Prop), i < n → R H → H D = some (.lst acc) → A i acc → Y i H x H' → (∀ v H4, R H4 → H4 D = some (.lst acc) → A (i + 1) (acc ++ [v]) → C v H4) → (∀ H3, R H3 → H3 D = some (.lst acc) → A (i + 1) acc → N H3) →
      g x (wipe σ vs) H' fun σ2 H2 => wipe σ2 vs = wipe σ vs ∧ tt σ2 H2 fun b H3 => if b = true then te σ2 H3 C else N H3)
    (hd : ∀ H xs, R H → H D = some (.lst xs) → A n xs → Qd H) :
    ∃ W : Nat → Nat → Hp → Prop, (∃ m, W 0 m (upd H1 D (.lst []))) ∧ ∀ i m H, W i m H →
      (J.stop i H ∧ Qd H) ∨ (J.go i H ∧ ∃ Nx : Hp → Prop, (∀ H', Nx H' → ∃ m', m' < m ∧ W (i + 1) m' H') ∧ ∀ x H', J.yld i H x H' → g x (wipe σ vs) H' fun σ2 H2 => wipe σ2 vs = wipe σ vs ∧ tt σ2 H2 fun b H3 =>
        if b = true then te σ2 H3 fun y H4 => ∃ acc, H4 D = some (.lst acc) ∧ acc.length < sizeLine ∧ Nx (upd H4 D (.lst (acc ++ [y]))) else Nx H3) := by
  refine lc_it w (fun i H => R H ∧ ∃ acc, H D = some (.lst acc) ∧ A i acc) ⟨r0, [], upd_same, h0⟩ (fun i H _ p => hG H p.1) (fun i x H H' hi p y => ?_) fun H p => ?_
  · obtain ⟨rH, acc, hD, ha⟩ := p
    refine hs i x H H' acc _ _ hi rH hD ha y (fun v H4 r4 d4 a4 => ⟨acc, d4, ?_, r1 _ _ r4, _, upd_same, a4⟩) (fun H3 r3 d3 a3 => ⟨r3, acc, d3, a3⟩)
    have := hA i acc ha
    omega
  · obtain ⟨rH, acc, hD, ha⟩ := p
    exact hd H acc rH hD ha
/-- no test -/
theorem yes_te {te : TE} {σ : L2.St} {H : Hp} {C : VK} {N : Hp → Prop} (h : te σ H C) : tYes σ H fun b H3 => if b = true then te σ H3 C else N H3 := by
  show (if true = true then te σ H C else N H)
  rw [if_pos rfl]
  exact h
section
variable {X : Cx}
theorem call_lenT : CallR X (.builtin "len") (fun xs H Q => ∃ l, xs = [tx l] ∧ l.length ≤ sizeLine ∧ Q (.int (l.length : Int)) H) := by
  intro pins s σ H xs us Q I r h
  obtain ⟨l, rfl, hz, q⟩ := h
  exact call_len_str pins s σ H _ us Q I r ⟨_, rfl, by rw [tS_len]; exact hz, by rw [tS_len]; exact q⟩
end
theorem walk_tx {l : List Nat} : Walk (Its (tS l)) l.length (fun _ => True) (fun i H v H' => H' = H ∧ ∃ c, l[i]? = some c ∧ v = tx [c]) := by
  have e : (tS l).cps.size = l.length := tS_len l
  refine ⟨fun i _ hi _ => ?_, fun _ _ => ?_, fun i H v H' _ _ y => ?_⟩
  · show i < (tS l).cps.size
    rw [e]; exact hi
  · show (tS l).cps.size ≤ l.length
    rw [e]; exact Nat.le_refl _
  · obtain ⟨h1, c, h2, h3⟩ := y
    exact ⟨h1, c, by simpa [tS] using h2, h3⟩
/-- a def whose code object is told -/
theorem okC {P : Program} {w : World} {K : PySem.W.Frag} {mg : Str → Option Value} {base : Heap} {x qual : Str} {st : Stmt} {f : Addr} {fd : FuncData} {N ps : List Str} {k : Nat} {sp : Sp} (F : Fun K x qual st f fd) (S : FnScope N ps (defScope st)) (len : ∀ vs H Q E, sp vs H Q E → vs.length = ps.length)
    (hbody : ∀ (A : Around) (outer : List Env) (s : Shared) (H : Hp) (vs : List V) (Q : VK) (E : XK), Room k (A.deeper (envOfC qual (defScope st) s.heap.objs.size f fd.code)) → A.guards = some [] → sp vs H Q E →
      ∃ t, PSs (cxOf CX0 P w K mg base N qual (defScope st) f fd.code A outer s H E).nox (defBody st) t ∧ t { nx := fun _ H' => Q .non H', rt := Q } (L2.start N vs) H) : FnOkG P w K mg base CX0 (k + 1) f fd ps sp := by
  obtain ⟨oc, od, kV, doc, pm, an, cdv, ct, osl, rfl, lk, hcd⟩ := F.ex
  refine fn_ofG lk hcd S len fun A outer s H vs Q E hr hg hsp => ?_
  obtain ⟨t, h, q⟩ := hbody A outer s H vs Q E hr hg hsp
  exact ⟨t, h.nox, q⟩
end L3
namespace L3
open PySem PySem.Spec PyProof.Rows L2
/-- what repr asks of data -/
structure Shw (d : PyData) : Prop where
  s : d.showable = true
  z : d.shown.length ≤ sizeLine
  p : d.depth ≤ 50
def dTx (ls : List (List Nat)) : List PyData := ls.map fun l => PyData.str (tS l)
theorem dp_txs {K : PySem.W.Frag} {H : Hp} : ∀ ls : List (List Nat), DpAll K H (ls.map tx) (dTx ls)
  | [] => .nil
  | l :: ls => .cons (.str _) (dp_txs ls)
def k1 {α : Type} : List α → List α → List α
  | [], [w] => [w]
  | _, _ => []
def k2 {α : Type} : List α → List α → List α
  | [], [w, v] => [v, w]
  | _, _ => []
theorem k1_rel : ∀ {vs : List V} {us : List Value} {zs : List V} {ws : List Value}, Vals vs us → Vals zs ws → Vals (k1 vs zs) (k1 us ws)
  | _, _, _, _, .nil, .nil => .nil
  | _, _, _, _, .nil, .cons r .nil => .cons r .nil
  | _, _, _, _, .nil, .cons _ (.cons _ _) => .nil
  | _, _, _, _, .cons _ _, .nil => .nil
  | _, _, _, _, .cons _ _, .cons _ _ => .nil
/-- f(n = v) -/
theorem kb1 {K : PySem.W.Frag} {x n : Str} {st : Stmt} {f : Addr} {fd : FuncData} (F : Fun K x x st f fd)
    (h : ∀ (kV doc pm : Value) (an : Option Addr) (cdv ct w : Value), bindArgs (PySem.W.fnOf x x (defArgs st) (defBody st) (defScope st) .none kV doc pm an cdv ct) ⟨[], [(n, w)]⟩ = pure [(n, w)]) : KBinds K fd [n] [n] k1 k1 := by
  refine ⟨fun s us ws X hl => ?_, k1_rel⟩
  obtain ⟨oc, od, kV, doc, pm, an, cdv, ct, osl, rfl, lk, hcd⟩ := F.ex
  match us, ws, hl with
  | [], [w], _ => exact .of_eq (h kV doc pm an cdv ct w)
end L3
namespace L3
open PySem PySem.Spec PyProof.Rows L2
end L3
namespace L3
open PySem PySem.Spec PyProof.Rows L2
end L3
namespace L3
open PySem PySem.Spec PyProof.Rows L2
theorem sq_put {K : PySem.W.Frag} {a D : Addr} {xs : List V} {H : Hp} {o : HO} (h : SqL K H a xs) (n : a ≠ D) : SqL K (upd H D o) a xs := by
  rcases h with (h | ⟨o', h⟩) | h
  · exact .inl (.inl (by rw [upd_ne n]; exact h))
  · exact .inl (.inr ⟨o', by rw [upd_ne n]; exact h⟩)
  · exact .inr h
theorem sq_new {K : PySem.W.Frag} {a D : Addr} {xs : List V} {H : Hp} {o : HO} (h : SqL K H a xs) (n : H D = none) : SqL K (upd H D o) a xs := by
  rcases h with (h | ⟨o', h⟩) | h
  · exact .inl (.inl (same_upd n _ _ h))
  · exact .inl (.inr ⟨o', same_upd n _ _ h⟩)
  · exact .inr h
theorem sq_same {K : PySem.W.Frag} {a : Addr} {xs : List V} {H H' : Hp} (h : SqL K H a xs) (s : Same H H') : SqL K H' a xs := by
  rcases h with (h | ⟨o', h⟩) | h
  · exact .inl (.inl (s _ _ h))
  · exact .inl (.inr ⟨o', s _ _ h⟩)
  · exact .inr h
/-- what a statement's ends have in common -/
theorem join {t : TS} {D : Ends} {σ : L2.St} {H : Hp} (R : L2.St → Hp → Prop) (h : ∀ N : L2.St → Hp → Prop, (∀ σ' H', R σ' H' → N σ' H') → t { D with nx := N } σ H) (k : ∀ σ' H', R σ' H' → D.nx σ' H') : t D σ H := h D.nx k
theorem next_to {D : Ends} {σ : L2.St} {H : Hp} (h : D.nx σ H) : tNext D σ H := h
theorem seq_to {t u : TS} {D : Ends} {σ : L2.St} {H : Hp} (h : t { D with nx := u D } σ H) : tSeq t u D σ H := h
end L3
namespace L3
open PySem PySem.Spec PyProof.Rows L2
/-- a comprehension: R of the heap, A of the list so far; R asked of heaps that hold the list -/
theorem lc_gen2 {J : It} {n : Nat} {G : Hp → Prop} {Y : Nat → Hp → V → Hp → Prop} (w : Walk J n G Y) {g : TG} {tt : TT} {te : TE} {vs : List Nat} {σ : L2.St} {H1 : Hp} {D : Addr} {Qd : Hp → Prop} (R : Hp → Prop) (A : Nat → List V → Prop) (hz : n ≤ sizeLine) (hA : ∀ i acc, A i acc → acc.length ≤ i)
    (h0 : A 0 []) (r0 : R (upd H1 D (.lst []))) (r1 : ∀ H acc acc', H D = some (.lst acc) → R H → R (upd H D (.lst acc'))) (hG : ∀ H, R H → G H)
    (hs : ∀ i x H H' acc (C : VK) (N : Hp → Prop), i < n → R H → H D = some (.lst acc) → A i acc → Y i H x H' → (∀ v H4, R H4 → H4 D = some (.lst acc) → A (i + 1) (acc ++ [v]) → C v H4) → (∀ H3, R H3 → H3 D = some (.lst acc) → A (i + 1) acc → N H3) →
      g x (wipe σ vs) H' fun σ2 H2 => wipe σ2 vs = wipe σ vs ∧ tt σ2 H2 fun b H3 => if b = true then te σ2 H3 C else N H3)
    (hd : ∀ H xs, R H → H D = some (.lst xs) → A n xs → Qd H) :
    ∃ W : Nat → Nat → Hp → Prop, (∃ m, W 0 m (upd H1 D (.lst []))) ∧ ∀ i m H, W i m H →
      (J.stop i H ∧ Qd H) ∨ (J.go i H ∧ ∃ Nx : Hp → Prop, (∀ H', Nx H' → ∃ m', m' < m ∧ W (i + 1) m' H') ∧ ∀ x H', J.yld i H x H' → g x (wipe σ vs) H' fun σ2 H2 => wipe σ2 vs = wipe σ vs ∧ tt σ2 H2 fun b H3 =>
        if b = true then te σ2 H3 fun y H4 => ∃ acc, H4 D = some (.lst acc) ∧ acc.length < sizeLine ∧ Nx (upd H4 D (.lst (acc ++ [y]))) else Nx H3) := by
  refine lc_it w (fun i H => R H ∧ ∃ acc, H D = some (.lst acc) ∧ A i acc) ⟨r0, [], upd_same, h0⟩ (fun i H _ p => hG H p.1) (fun i x H H' hi p y => ?_) fun H p => ?_
  · obtain ⟨rH, acc, hD, ha⟩ := p
    refine hs i x H H' acc _ _ hi rH hD ha y (fun v H4 r4 d4 a4 => ⟨acc, d4, ?_, r1 _ _ _ d4 r4, _, upd_same, a4⟩) (fun H3 r3 d3 a3 => ⟨r3, acc, d3, a3⟩)
    have := hA i acc ha
    omega
  · obtain ⟨rH, acc, hD, ha⟩ := p
    exact hd H acc rH hD ha
end L3
namespace L3
open PySem PySem.Spec PyProof.Rows L2
/-- an element that is a text, with the hash that the world gives it -/
def GoodT (w : World) (e : Int × Value) : Prop := ∃ l tk, e.2 = Value.str (tS l) tk ∧ e.1 = hashStr w (tS l)
def txtOf (e : Int × Value) : List Nat := match e.2 with | .str x _ => x.cps.toList | _ => []
theorem txt_tS (l : List Nat) (h : Int) (tk : Tok) : txtOf (h, Value.str (tS l) tk) = l := by simp [txtOf, tS]
theorem tS_txt (x : Str) : tS x.cps.toList = x := by cases x; simp [tS]
/-- the object at a is a set of the texts L -/
def SetT (w : World) (h : Heap) (a : Addr) (L : List (List Nat)) : Prop :=
  ∃ o es ep t, h.get? a = some o ∧ o.ExactSet ∧ o.data = .set es ep t ∧ (∀ e ∈ es.toList, GoodT w e) ∧ (es.toList.map txtOf).Perm L ∧ L.Nodup ∧
    es.size < scanBound ∧ t.fits es.size = true ∧ Ris t.place.toList ∧ (w.params.followText "set-order" = true ∨ t.led = true)
section
variable {P : Program} {w : World} {A : Around} {E : Value → Shared → Prop} {s : Shared} {a : Addr} {L : List (List Nat)}
theorem SetT.at {h h' : Heap} (R : SetT w h a L) (k : ∀ o, h.get? a = some o → h'.get? a = some o) : SetT w h' a L := by
  obtain ⟨o, es, ep, t, ho, r⟩ := R
  exact ⟨o, es, ep, t, k o ho, r⟩
theorem goodT_elems {l : List (Int × Value)} (g : ∀ e ∈ l, GoodT w e) : ElemsOf (PySem.strKind P w) l := fun e he => by
  obtain ⟨x, tk, h1, h2⟩ := g e he
  exact ⟨⟨tS x, by rw [h1]; exact strKind_is P w _ _, h2⟩, by rw [h1]; rfl⟩
theorem goodT_is {e : Int × Value} (g : GoodT w e) (l : List Nat) : (PySem.strKind P w).is (tS l) e.2 = true ↔ txtOf e = l := by
  obtain ⟨x, tk, h1, h2⟩ := g
  have e1 : txtOf e = x := by unfold txtOf; rw [h1]
  rw [e1, h1]
  show Value.isStrOf (tS l) (Value.str (tS x) tk) = true ↔ _
  constructor
  · intro h
    obtain ⟨u, hu⟩ := Value.isStrOf_shape h
    injection hu with hx
    have := congrArg (fun z : Str => z.cps.toList) hx
    simpa [tS] using this
  · rintro rfl
    exact strKind_is P w (tS _) tk
theorem setT_tail {g : Bool → Sem Unit} (hg : ∀ (b : Bool) (s₁ : Shared) (Q' : Unit → Shared → Prop), Q' () s₁ → wpAny (model P w) A (g b) Q' E s₁)
    {o : Obj} {es : Array (Int × Value)} {ep : Nat} {t : SetTable} (ho : s.heap.get? a = some o) (hex : o.ExactSet) (hd : o.data = .set es ep t)
    {es1 : Array (Int × Value)} {t2 : SetTable} {L' : List (List Nat)} (g1 : ∀ e ∈ es1.toList, GoodT w e) (p1 : (es1.toList.map txtOf).Perm L') (nd : L'.Nodup)
    (hb1 : es1.size < scanBound) (hf2 : t2.fits es1.size = true) (hr : Ris t2.place.toList) (hl : w.params.followText "set-order" = true ∨ t2.led = true) {wasDummy : Bool} {R : Option Bool → Shared → Prop}
    (hR : ∀ h', Heap.SameBut a s.heap h' → SetT w h' a L' → R (some true) { s with heap := h' }) :
    wpAny (model P w) A (do
        storeSet a es1 t2
        if (!wasDummy && t2.tooFull) = true then do
            g (relayAll t2 es1 (SetTable.grown es1.size)).2.2
            storeSet a (relayAll t2 es1 (SetTable.grown es1.size)).1 (relayAll t2 es1 (SetTable.grown es1.size)).2.1
            pure (some true)
          else pure (some true)) R E s := by
  refine wpAny_bind (wpAny_storeSet_of ho hd ?_ (fits_of_scanBound hb1))
  have q1 := store_at (es' := es1) (t' := t2) ho hd
  have sb := Heap.SameBut.update s.heap a (Obj.putSet es1 t2)
  split
  · have pm := relayAll_perm t2 es1 (SetTable.grown es1.size)
    have f3 := relayAll_fits t2 es1 (SetTable.grown es1.size)
    have r3 := relayAll_ris t2 es1 (SetTable.grown es1.size)
    have l3 := relayAll_led t2 es1 (SetTable.grown es1.size)
    generalize relayAll t2 es1 (SetTable.grown es1.size) = Z at pm f3 r3 l3 ⊢
    obtain ⟨es2, t3, gv⟩ := Z
    dsimp only at pm f3 r3 l3 ⊢
    have sz : es2.size = es1.size := by rw [← Array.length_toList, pm.length_eq, Array.length_toList]
    refine wpAny_bind (hg _ _ _ ?_)
    refine wpAny_bind (wpAny_storeSet_of q1 rfl ?_ (fits_of_scanBound (by rw [sz]; exact hb1)))
    refine wpAny_pure (hR _ (sb.trans (Heap.SameBut.update _ a _)) ⟨_, es2, _, t3, store_at (es' := es2) (t' := t3) q1 rfl, hex, rfl, fun e he => g1 e (pm.mem_iff.mp he), (pm.map txtOf).trans p1, nd, by rw [sz]; exact hb1, f3, r3, ?_⟩)
    rcases hl with z | z
    · exact .inl z
    · exact .inr (by rw [l3]; exact z)
  · exact wpAny_pure (hR _ sb ⟨_, es1, _, t2, q1, hex, rfl, g1, p1, nd, hb1, hf2, hr, hl⟩)
theorem setT_add {l : List Nat} {tk : Tok} {Q : Bool → Shared → Prop} (R : SetT w s.heap a L) (room : L.length + 1 < scanBound)
    (hQ : ∀ b h', Heap.SameBut a s.heap h' → SetT w h' a (if l ∈ L then L else L ++ [l]) → Q b { s with heap := h' }) :
    wpAny (model P w) A (setAddHashed a (.str (tS l) tk) ((PySem.strKind P w).hash (tS l))) Q E s := by
  obtain ⟨o, es, ep, t, ho, hex, hd, g, pL, nd, hb, hf, hr, hl⟩ := R
  have hkey : (PySem.strKind P w).is (tS l) (.str (tS l) tk) = true := strKind_is P w _ tk
  have hel : ElemsOf (PySem.strKind P w) es.toList := goodT_elems g
  have hn : es.size = L.length := by rw [← Array.length_toList, ← pL.length_eq, List.length_map]
  unfold setAddHashed setAddHashedIn
  refine wpAny_holding (wpAny_bind (wpAny_setState_of ho hd hf ?_))
  dsimp only
  rw [byScan_of (knd := PySem.strKind P w) rfl hb hel]
  simp only [↓reduceIte]
  unfold setAddByScan
  refine wpAny_bind ?_
  refine wpAny_bind (wpAny_rule ?_)
  refine wpAny_bind (wpAny_setScan_of hkey ho hd hf hel ?_)
  cases hfi : List.findIdx? (fun e => (PySem.strKind P w).is (tS l) e.2) es.toList with
  | some j =>
    dsimp only
    obtain ⟨hj, pj, _⟩ := List.findIdx?_eq_some_iff_getElem.mp hfi
    have hm : l ∈ L := pL.mem_iff.mp (List.mem_map.mpr ⟨_, List.getElem_mem hj, (goodT_is (P := P) (g _ (List.getElem_mem hj)) l).mp pj⟩)
    refine wpAny_pure (wpAny_pure ?_)
    have q := hQ false s.heap (Heap.SameBut.refl a s.heap) (by rw [if_pos hm]; exact ⟨o, es, ep, t, ho, hex, hd, g, pL, nd, hb, hf, hr, hl⟩)
    exact q
  | none =>
    dsimp only
    have hm : l ∉ L := fun z => by
      obtain ⟨e, he, q⟩ := List.mem_map.mp (pL.mem_iff.mpr z)
      have c := List.findIdx?_eq_none_iff.mp hfi e he
      rw [(goodT_is (P := P) (g e he) l).mpr q] at c
      cases c
    have hgw : ∀ (b : Bool) {s₁ : Shared} {Q' : Unit → Shared → Prop}, Q' () s₁ → wpAny (model P w) A (match b with | true => rule "set.scan.the-table-gave-way" | false => pure ()) Q' E s₁ :=
      fun b s₁ Q' q => by cases b <;> first | exact wpAny_pure q | exact wpAny_rule q
    have pm := layNew_perm t es ((PySem.strKind P w).hash (tS l)) (.str (tS l) tk)
    have hf1 := layNew_fits t es ((PySem.strKind P w).hash (tS l)) (.str (tS l) tk)
    have hr1 := layNew_ris t es ((PySem.strKind P w).hash (tS l)) (.str (tS l) tk) hr
    have hl1 := layNew_led t es ((PySem.strKind P w).hash (tS l)) (.str (tS l) tk)
    generalize layNew t es ((PySem.strKind P w).hash (tS l)) (.str (tS l) tk) = Z at pm hf1 hr1 hl1 ⊢
    obtain ⟨es1, t1, wd, gv⟩ := Z
    dsimp only at pm hf1 hr1 hl1 ⊢
    rw [Array.toList_push] at pm
    have g1 : ∀ e ∈ es1.toList, GoodT w e := fun e he => by
      rcases List.mem_append.mp (pm.mem_iff.mp he) with z | z
      · exact g e z
      · rw [List.mem_singleton.mp z]; exact ⟨l, tk, rfl, rfl⟩
    have p1 : (es1.toList.map txtOf).Perm (L ++ [l]) := by
      refine (pm.map txtOf).trans ?_
      rw [List.map_append, List.map_cons, List.map_nil, txt_tS]
      exact pL.append_right _
    have nd1 : (L ++ [l]).Nodup := by
      rw [List.nodup_append]
      refine ⟨nd, by simp, fun x hx y hy => ?_⟩
      rw [List.mem_singleton.mp hy]
      exact fun z => hm (z ▸ hx)
    have hsz : es1.size = L.length + 1 := by rw [← Array.length_toList, pm.length_eq, List.length_append, Array.length_toList, hn]; rfl
    have hb1 : es1.size < scanBound := by rw [hsz]; exact room
    have hled : w.params.followText "set-order" = true ∨ t1.led = true := by
      rcases hl with z | z
      · exact .inl z
      · exact .inr (by rw [hl1]; exact z)
    have fin : ∀ h', Heap.SameBut a s.heap h' → SetT w h' a (L ++ [l]) → Q true { s with heap := h' } := fun h' sb r => hQ true h' sb (by rw [if_neg hm]; exact r)
    refine wpAny_bind (hgw _ ?_)
    split
    · refine wpAny_bind ?_
      rw [hashByValue_scannable 8 rfl]
      refine wpAny_pure ?_
      refine setT_tail ?_ ho hex hd g1 p1 nd1 hb1 ?_ ?_ ?_ ?_
      · intro b s₁ Q' q; cases b <;> first | exact wpAny_pure q | exact wpAny_rule q
      · first | (split <;> first | exact hf1 | exact SetTable.fits_plain_off hf1) | exact hf1
      · first | (split <;> exact hr1) | exact hr1
      · first | (split <;> exact hled) | exact hled
      · intro h' sb r; dsimp only; exact wpAny_pure (fin h' sb r)
    · refine wpAny_bind (wpAny_pure ?_)
      simp only [↓reduceIte]
      refine setT_tail ?_ ho hex hd g1 p1 nd1 hb1 hf1 hr1 hled ?_
      · intro b s₁ Q' q; cases b <;> first | exact wpAny_pure q | exact wpAny_rule q
      · intro h' sb r; dsimp only; exact wpAny_pure (fin h' sb r)
end
end L3
namespace L3
open PySem PySem.Spec PyProof.Rows L2
/-- the first ones, each once -/
def ded (val : Nat → List Nat) : Nat → List (List Nat)
  | 0 => []
  | i + 1 => if val i ∈ ded val i then ded val i else ded val i ++ [val i]
theorem ded_len (val : Nat → List Nat) : ∀ i, (ded val i).length ≤ i
  | 0 => Nat.le_refl _
  | i + 1 => by
    have := ded_len val i
    unfold ded
    split
    · omega
    · rw [List.length_append]
      exact Nat.succ_le_succ this
theorem ded_mem (val : Nat → List Nat) (l : List Nat) : ∀ i, l ∈ ded val i ↔ ∃ j, j < i ∧ val j = l
  | 0 => by simp [ded]
  | i + 1 => by
    have ih := ded_mem val l i
    unfold ded
    split
    · rename_i h
      rw [ih]
      refine ⟨fun ⟨j, h1, h2⟩ => ⟨j, by omega, h2⟩, fun ⟨j, h1, h2⟩ => ?_⟩
      by_cases e : j = i
      · subst e
        rw [h2] at h
        exact ih.mp h
      · exact ⟨j, by omega, h2⟩
    · rw [List.mem_append, ih, List.mem_singleton]
      constructor
      · rintro (⟨j, h1, h2⟩ | h)
        · exact ⟨j, by omega, h2⟩
        · exact ⟨i, by omega, h.symm⟩
      · rintro ⟨j, h1, h2⟩
        by_cases e : j = i
        · exact .inr (by rw [← h2, e])
        · exact .inl ⟨j, by omega, h2⟩
section
variable {prog : Program} {w : World} {A : Around} {R : Result → Shared → Prop} {I : Addr} {fp wr : List Addr} {G : Array GenState → Array GenState → Prop} {n : Nat} {P : Nat → Value → Prop} {St : Nat → Shared → Prop}
theorem set_loopT (W : WalksS prog w A.in1 I fp wr G n P St) (S : Addr) (hSf : S ∉ fp) (val : Nat → List Nat) (hval : ∀ i v, P i v → ∃ t, v = Value.str (tS (val i)) t) (hb : n + 1 < scanBound) :
    ∀ (k i : Nat) (s : Shared), n - i = k → i ≤ n → St i s → SetT w s.heap S (ded val i) →
      (∀ s', Moved (S :: wr) G s s' → SetT w s'.heap S (ded val n) → R (.ok (.ret .none)) s') →
      codeAny (model prog w) A (.builtin "set.update.loop" ⟨[.ref S, .ref I], []⟩) R s := by
  have hSw : S ∉ wr := fun h => hSf (W.sub _ h)
  have sub : ∀ b ∈ wr, b ∈ S :: wr := fun b hb => List.mem_cons_of_mem _ hb
  intro k
  induction k with
  | zero =>
    intro i s hk hi hst hS hR
    obtain rfl : i = n := by omega
    refine codeAny_builtin PyProof.Rows.F.entry_set_update_loop ?_
    rw [Around.under_plainId PyProof.Rows.F.plain_set_update_loop _]
    show wpAny _ A.in1 (pyNext (.ref I) >>= _) _ _ s
    refine wpAny_bind (W.done s _ _ hst fun s' hm => ?_)
    show wpAny _ A.in1 (ret Value.none) _ _ s'
    exact wpAny_pure (hR s' (hm.mono sub) (hS.at fun o ho => hm.heap S _ hSw ho))
  | succ k ih =>
    intro i s hk hi hst hS hR
    have hlt : i < n := by omega
    refine codeAny_builtin PyProof.Rows.F.entry_set_update_loop ?_
    rw [Around.under_plainId PyProof.Rows.F.plain_set_update_loop _]
    show wpAny _ A.in1 (pyNext (.ref I) >>= _) _ _ s
    refine wpAny_bind (W.item i s _ _ hlt hst fun v s' hP hst' hm => ?_)
    obtain ⟨t, rfl⟩ := hval i v hP
    have hS' : SetT w s'.heap S (ded val i) := hS.at fun o ho => hm.heap S _ hSw ho
    show wpAny _ A.in1 (holding [Value.str (tS (val i)) t] (setAdd S (.str (tS (val i)) t)) >>= _) _ _ s'
    refine wpAny_bind (wpAny_holding ?_)
    unfold setAdd
    refine wpAny_holding ?_
    refine wpAny_bind ((PySem.strKind prog w).pyHash (k := tS (val i)) (strKind_is prog w _ t) ?_)
    have room : (ded val i).length + 1 < scanBound := by have := ded_len val i; omega
    refine setT_add (P := prog) (s := { s' with toks := s'.toks + 1 }) hS' room fun b h' sb hS2 => ?_
    refine wpAny_pure ⟨plainId_quiet PyProof.Rows.F.plain_set_update_loop _, ih (i + 1) _ (by omega) hlt (W.frame _ s' _ _ hst' (Nat.le_succ _) fun b hb o e => ?_) hS2 fun s'' hm'' hS'' => ?_⟩
    · rw [sb.2 b (fun h : b = S => hSf (by rw [← h]; exact hb))]; exact e
    · refine hR s'' (Moved.trans W.gtrans ((hm.mono sub).then_heap (Nat.le_succ _) fun b o hb e => ?_) hm'') hS''
      rw [sb.2 b (fun h : b = S => hb (by rw [h]; exact List.mem_cons_self))]; exact e
end
section
variable {P : Program} {w : World} {A : Around} {E : Value → Shared → Prop} {s : Shared}
theorem code_set_led1 (a : Value) {Q₁ : Value → Shared → Prop}
    (h : Q₁ (.ref s.heap.objs.size) { s with heap := s.heap.push { cls := .type "set", dict := none, data := .set #[] 0 (.fresh 0 0 (!w.params.followText "set-order")) } }) :
    codeAny (model P w) A (.call (.builtin "set.__new__") ⟨[.type "set", a], []⟩) (wants Q₁ E) s := by
  refine codeAny_of_tree ?_
  show wpAny _ A.in1 (do checkBuiltinCall "set.__new__" ⟨[.type "set", a], []⟩; again (.builtin "set.__new__" ⟨[.type "set", a], []⟩)) _ _ s
  refine wpAny_bind (wpAny_of_eq (PySem.F.newCall_set_1 a) (wpAny_pure ⟨plainId_quiet PySem.F.plain_set_new _, codeAny_builtin PySem.F.entry_set_new ?_⟩))
  rw [Around.under_plainId PySem.F.plain_set_new _]
  unfold Builtin.«set.__new__» Builtin.Frozenset.newClass
  have hsub := sub_set_self
  obtain ⟨hp, g, d, tk, os⟩ := s
  dsimp only
  wp_walk
  refine wpAny_askSetting (wpAny_pure ?_)
  dsimp only
  simp only [newObj]
  refine wpAny_bind (wpAny_alloc (wpAny_pure ?_))
  exact wpAny_pure h
theorem setT_fresh {h : Heap} (w : World) : SetT w (h.push { cls := .type "set", dict := none, data := .set #[] 0 (.fresh 0 0 (!w.params.followText "set-order")) }) h.objs.size [] := by
  refine ⟨_, #[], 0, _, Heap.get?_push_size _ rfl, ⟨rfl, rfl, rfl⟩, rfl, (fun e he => by simp at he), .refl _, List.nodup_nil, by decide, rfl, List.Pairwise.nil, ?_⟩
  show _ ∨ (!w.params.followText "set-order") = true
  cases w.params.followText "set-order"
  · exact .inr rfl
  · exact .inl rfl
end
end L3
namespace L3
open PySem PySem.Spec PyProof.Rows L2
theorem sub_str_set : isSubtype (.type "str") (.type "set") = pure false := by rw [isSubtype_type]; kernel_rfl
theorem sub_str_frozenset : isSubtype (.type "str") (.type "frozenset") = pure false := by rw [isSubtype_type]; kernel_rfl
section
variable {P : Program} {w : World} {A : Around} {E : Value → Shared → Prop} {s : Shared}
set_option maxHeartbeats 8000000 in
/-- set(text) -/
theorem call_set_text {x : List Nat} {tx0 : Tok} {Q : Value → Shared → Prop} (hh : A.handled = none) (hb : x.length + 1 < scanBound)
    (h : ∀ (h' : Heap) (tk : Nat), SetT w h' s.heap.objs.size (ded (fun i => [x.getD i 0]) x.length) →
      (∀ b o, b < s.heap.objs.size → s.heap.get? b = some o → h'.get? b = some o) → Q (.ref s.heap.objs.size) { s with heap := h', toks := tk }) :
    wpAny (model P w) A (call (.type "set") [.str (tS x) tx0]) Q E s := by
  obtain ⟨c, tl, hmro⟩ := PySem.F.called_set.mro
  have hmade := PySem.F.called_set.made
  have hsub := PySem.F.called_set.sub
  refine wpAny_call (codeAny_of_tree ?_)
  show wpAny _ _ (callAny (.type "set") _) _ _ _
  refine wpAny_pure ⟨Code.quiet_builtin _ (by decide +kernel), codeAny_builtin PySem.F.entry_type_call ?_⟩
  rw [Around.under_plain (weight_type_call_type "set" [.str (tS x) tx0] []) rfl]
  have h1 := PySem.F.called_set.notType
  have h2 := PySem.F.called_set.canCreate
  have hct := PySem.F.typeCall_set_1 (.str (tS x) tx0)
  repeat (any_goals (first | assumption | wp_step))
  refine codeAny_mono (code_set_led1 (.str (tS x) tx0) (E := E) (Q₁ := fun obj s₁ => obj = .ref s.heap.objs.size ∧ s₁ = { s with heap := s.heap.push { cls := .type "set", dict := none, data := .set #[] 0 (.fresh 0 0 (!w.params.followText "set-order")) } }) ⟨rfl, rfl⟩) fun r s₁ hr => ?_
  cases r with
  | error e => exact hr
  | ok fl =>
    cases fl with
    | ret obj =>
      obtain ⟨rfl, rfl⟩ := hr
      have hS : (s.heap.push { cls := .type "set", dict := none, data := .set #[] 0 (.fresh 0 0 (!w.params.followText "set-order")) }).get? s.heap.objs.size = some { cls := .type "set", dict := none, data := .set #[] 0 (.fresh 0 0 (!w.params.followText "set-order")) } := Heap.get?_push_size _ rfl
      have hT : Shared.TypeIs { s with heap := s.heap.push { cls := .type "set", dict := none, data := .set #[] 0 (.fresh 0 0 (!w.params.followText "set-order")) } } (.ref s.heap.objs.size) "set" := ⟨_, hS, rfl⟩
      have hli := PySem.F.called_set.init.lookup
      have hbi := PySem.F.called_set.init.bind (.ref s.heap.objs.size)
      repeat (any_goals (first | assumption | wp_step))
      refine codeAny_mono (codeAny_call_builtin (R := wants (fun r s₂ => r = .none ∧ ∃ h' tk, s₂ = { s with heap := h', toks := tk } ∧ SetT w h' s.heap.objs.size (ded (fun i => [x.getD i 0]) x.length) ∧
          (∀ b o, b < s.heap.objs.size → s.heap.get? b = some o → h'.get? b = some o)) E) PySem.F.called_set.init.plain PySem.F.entry_set_init (PySem.check_set_init_1 hT ?_)) fun r₂ s₂ hr₂ => ?_
      · have hsls := sub_str_set
        have hslf := sub_str_frozenset
        have hne : (Value.type "str" == Value.type "dict") = false := by decide
        unfold Builtin.«set.__init__» noKeywords Builtin.Frozenset.updateFrom
        generalize hPI : pyIter = PI
        wp_walk
        subst hPI
        refine wpAny_pyIter_str fun oi St hW hst => ?_
        refine wpAny_bind (wpAny_runValue ?_)
        have hh3 : A.in1.in1.in1.handled = none := by simp [hh]
        have hsz : (s.heap.push { cls := .type "set", dict := none, data := .set #[] 0 (.fresh 0 0 (!w.params.followText "set-order")) }).objs.size = s.heap.objs.size + 1 := Heap.size_push _ _
        have hSf : s.heap.objs.size ∉ [(s.heap.push { cls := .type "set", dict := none, data := .set #[] 0 (.fresh 0 0 (!w.params.followText "set-order")) }).objs.size] := by
          rw [hsz]
          simp
        have hn : (tS x).cps.size = x.length := tS_len x
        have hval : ∀ (i : Nat) (v : Value), SignAt (tS x) i v → ∃ t, v = Value.str (tS [x.getD i 0]) t := fun i v hv => by
          obtain ⟨c, u, hc, rfl⟩ := hv
          have hc' : x[i]? = some c := by simpa [tS] using hc
          refine ⟨u, ?_⟩
          rw [List.getD_eq_getElem?_getD, hc']
          rfl
        refine set_loopT ((hW _ hh3).toS) s.heap.objs.size hSf (fun i => [x.getD i 0]) hval (by rw [hn]; exact hb) _ 0 _ rfl (Nat.zero_le _) hst ((setT_fresh w).at fun o ho => Heap.get?_push_of_some _ ho) fun s' hm hS' => ?_
        obtain ⟨h', g', d', tk', os'⟩ := s'
        have eg : g' = s.gens := hm.gens
        have ed : d' = s.drawn := hm.drawn
        have eo : os' = s.os := hm.os
        subst eg ed eo
        rw [hn] at hS'
        show wpAny _ _ _ _ _ _
        refine wpAny_pure ?_
        show wpAny _ _ (ret Value.none) _ _ _
        refine wpAny_pure ⟨rfl, h', tk', rfl, hS', fun b o hb e => ?_⟩
        refine hm.heap b o (fun z => ?_) (Heap.get?_push_of_some _ (Heap.get?_push_of_some _ e))
        simp only [List.mem_cons, List.not_mem_nil, or_false] at z
        rcases z with z | z
        · exact absurd z (Nat.ne_of_lt hb)
        · rw [hsz] at z
          exact absurd z (Nat.ne_of_lt (Nat.lt_succ_of_lt hb))
      · cases r₂ with
        | error e => exact hr₂
        | ok fl₂ =>
          cases fl₂ with
          | ret r =>
            obtain ⟨rfl, h', tk, rfl, hS', hk'⟩ := hr₂
            repeat (any_goals (first | assumption | wp_step))
            exact h _ _ hS' hk'
          | _ => exact hr₂.elim
    | _ => exact hr.elim
end
end L3
namespace L3
open PySem PySem.Spec PyProof.Rows L2
def sVal (v : Value) : Str := match v with | .str x _ => x | _ => Str.empty
theorem strs_of : ∀ (l : List Value), (∀ v ∈ l, ∃ k tk, v = Value.str k tk) → StrsAre l (l.map sVal)
  | [], _ => .nil
  | v :: l, h => by
    obtain ⟨k, tk, rfl⟩ := h v List.mem_cons_self
    exact .cons k tk (strs_of l fun u hu => h u (List.mem_cons_of_mem _ hu))
section
variable {P : Program} {w : World} {A : Around} {E : Value → Shared → Prop} {s : Shared} {a : Addr} {L : List (List Nat)}
theorem sorted_setX {Q : Value → Shared → Prop} (R : SetT w s.heap a L) (hh : A.handled = none)
    (hQ : ∀ s' p (out : Array Value) (c : Nat) (ss : List Str), (∀ b o, s.heap.get? b = some o → s'.heap.get? b = some o) → s'.gens = s.gens → s'.os = s.os → s.heap.objs.size ≤ p →
      s'.heap.get? p = some (seqObj "list" out c) → StrsAre out.toList ss → ss.Perm (L.map tS) → sortedS ss = true → Q (.ref p) s') :
    wpAny (model P w) A (call (.builtin "sorted") [.ref a]) Q E s := by
  obtain ⟨o, es, ep, t, ho, hex, hd, g, pL, nd, hb, hf, hr, hl⟩ := R
  refine Calls.call_function_entry kind_sorted plain_sorted entry_sorted (args_sorted1 _) ?_
  unfold Builtin.«sorted»
  refine wpAny_bind (m := checkCount "sorted" 1 1 _) (wpAny_pure ?_)
  refine wpAny_bind (collect_set (A := A.in1) hh ⟨o, ho, hex.1, hd⟩ hf hb hr hl fun s1 vs k1 hz g1 o1 pm => ?_)
  have hvl : vs.length = es.size := by rw [pm.length_eq, List.length_map, Array.length_toList]
  have hS : StrsAre vs (vs.map sVal) := strs_of vs fun v hv => by
    obtain ⟨e, he, q⟩ := List.mem_map.mp (pm.mem_iff.mp hv)
    obtain ⟨x, tk, h1, _⟩ := g e he
    exact ⟨tS x, tk, by rw [← q]; exact h1⟩
  have pk : (vs.map sVal).Perm (L.map tS) := by
    refine (pm.map sVal).trans ?_
    rw [List.map_map]
    have e1 : es.toList.map (sVal ∘ fun x => x.2) = (es.toList.map txtOf).map tS := by
      rw [List.map_map]
      refine List.map_congr_left fun e he => ?_
      obtain ⟨x, tk, h1, _⟩ := g e he
      show sVal e.2 = tS (txtOf e)
      unfold txtOf
      rw [h1]
      show tS x = tS (tS x).cps.toList
      rw [tS_txt]
    rw [e1]
    exact pL.map tS
  have hL : vs.length ≤ sizeLine := by rw [hvl]; exact fits_of_scanBound hb
  refine wpAny_bind (wpAny_newList ?_ hL)
  have hoL : (s1.heap.push (seqObj "list" vs.toArray 0)).get? s1.heap.objs.size = some (seqObj "list" vs.toArray 0) := Heap.get?_push_size _ rfl
  refine wpAny_bind (wpAny_holding (wpAny_call_entry slot_list_sort ⟨_, hoL, rfl⟩ entry_list_sort (list_sort_treeKAny strKind_oneLt hoL hS.keysOf (fun v₁ v₂ rest e => keyKind_strs (by rw [← e]; exact hS)) hL fun st' hp hs => ⟨_, rfl, ?_⟩) (args_list_sort _)))
  obtain ⟨ss', a1, a2, a3⟩ := sorted_out_str hS hp hs
  obtain ⟨c, hc⟩ := sortedHeap_at (vs := vs) (out := (arrOf st').map (·.2)) hoL
  refine wpAny_pure ⟨_, rfl, hQ _ s1.heap.objs.size _ c ss' (fun b u e => ?_) g1 o1 hz hc a1 (a2.trans pk) a3⟩
  have q := k1 b u e
  have hlt := Heap.lt_size q
  show (sortedHeap (s1.heap.push (seqObj "list" vs.toArray 0)) s1.heap.objs.size vs _).get? b = some u
  rw [sortedHeap_old (Nat.ne_of_lt hlt) (by rw [size_push']; exact Nat.lt_succ_of_lt hlt)]
  exact Heap.get?_push_of_some _ q
end
end L3
namespace L3
open PySem PySem.Spec PyProof.Rows L2
/-- the set of the texts L at a -/
def TSet (w : World) (a : Addr) (L : List (List Nat)) : HO := .ext fun h => SetT w h a L
/-- the letters of a text, each once -/
def lets (l : List Nat) : List (List Nat) := ded (fun i => [l.getD i 0]) l.length
theorem lets_mem {l x : List Nat} : x ∈ lets l ↔ ∃ c, c ∈ l ∧ x = [c] := by
  unfold lets
  rw [ded_mem]
  constructor
  · rintro ⟨j, hj, rfl⟩
    refine ⟨l.getD j 0, ?_, rfl⟩
    rw [List.getD_eq_getElem?_getD, List.getElem?_eq_getElem hj]
    exact List.getElem_mem hj
  · rintro ⟨c, hc, rfl⟩
    obtain ⟨j, hj, rfl⟩ := List.getElem_of_mem hc
    exact ⟨j, hj, by rw [List.getD_eq_getElem?_getD, List.getElem?_eq_getElem hj]; rfl⟩
theorem rising_pair : ∀ (ss : List Str) (p : Str), risingS p ss = true → (p :: ss).Pairwise fun a b => ¬ b.cps.toList < a.cps.toList
  | [], p, _ => by simp
  | x :: ss, p, h => by
    have h : (!ltCps x.cps.toList p.cps.toList && risingS x ss) = true := h
    rw [Bool.and_eq_true, Bool.not_eq_true', ltCps_eq, decide_eq_false_iff_not] at h
    have ih := rising_pair ss x h.2
    refine List.pairwise_cons.mpr ⟨fun y hy => ?_, ih⟩
    rcases List.mem_cons.mp hy with rfl | hy
    · exact h.1
    · have h2 := (List.pairwise_cons.mp ih).1 y hy
      exact List.not_lt.mpr (List.le_trans (List.not_lt.mp h.1) (List.not_lt.mp h2))
theorem sorted_pair {ss : List Str} (h : sortedS ss = true) : ss.Pairwise fun a b => ¬ b.cps.toList < a.cps.toList := by
  cases ss with
  | nil => exact List.Pairwise.nil
  | cons x r => exact rising_pair r x h
theorem vals_strsT : ∀ {vs : List Value} {ss : List Str}, StrsAre vs ss → Vals ((ss.map fun z => z.cps.toList).map tx) vs
  | _, _, .nil => .nil
  | _, _, .cons y t k => .cons ⟨t, by show Value.str y t = Value.str (tS y.cps.toList) t; rw [tS_txt]⟩ (vals_strsT k)
theorem up_strict {L : List (List Nat)} (h : L.Pairwise fun a b => ¬ b < a) (d : L.Nodup) : L.Pairwise (· < ·) := by
  induction L with
  | nil => exact List.Pairwise.nil
  | cons x l ih =>
    obtain ⟨h1, h2⟩ := List.pairwise_cons.mp h
    obtain ⟨d1, d2⟩ := List.nodup_cons.mp d
    refine List.pairwise_cons.mpr ⟨fun y hy => ?_, ih h2 d2⟩
    rcases Decidable.em (x < y) with k | k
    · exact k
    · exact absurd (List.le_antisymm (List.not_lt.mp (h1 y hy)) (List.not_lt.mp k)) (fun z => d1 (z ▸ hy))
section
variable {X : Cx}
theorem tset_new {w : World} {P : Program} {H : Hp} {h : Heap} {a : Addr} {L : List (List Nat)} (R : SetT w h a L) : ObjOk P w H h a (TSet w a L) := by
  obtain ⟨o, es, ep, t, ho, r⟩ := id R
  exact ⟨R, ⟨o, ho⟩, fun h1 h2 p k => SetT.at p k⟩
/-- set(text) -/
theorem cr_setT (hc : X.calm = true) : CallR X (.type "set") (fun xs H Q => ∃ l, xs = [tx l] ∧ l.length ≤ 4000 ∧ ∀ p, H p = none → Q (.ref p) (upd H p (TSet X.w p (lets l)))) := by
  intro pins s σ H xs us Q I r h
  obtain ⟨l, rfl, hz, q⟩ := h
  obtain ⟨u, rfl, rx⟩ := vals1 r
  obtain ⟨t, rfl⟩ := rx
  refine call_set_text (I.ok.hd hc) (by unfold scanBound; omega) fun h' tk hS hk => ?_
  exact ⟨.ref _, _, I.laid (t' := tk) (fun b o e => hk b o (Heap.lt_size e) e) (Nat.le_refl _) (tset_new hS), rfl, q _ (I.hok.fresh (Nat.le_refl _))⟩
/-- sorted(set) -/
theorem cr_sortSetT (hc : X.calm = true) : CallR X (.builtin "sorted") (fun xs H Q => ∃ (a : Addr) (L : List (List Nat)), xs = [.ref a] ∧ H a = some (TSet X.w a L) ∧
    ∀ (L' : List (List Nat)) (p : Addr), L'.Perm L → L'.Pairwise (· < ·) → H p = none → Q (.ref p) (upd H p (.lst (L'.map tx)))) := by
  intro pins s σ H vs us Q I r h
  obtain ⟨a, L, rfl, ha, q⟩ := h
  have R : SetT X.w s.heap a L := (I.hok a _ ha).1
  rw [Vals.ref1 r]
  have nd : L.Nodup := by obtain ⟨_, _, _, _, _, _, _, _, _, n, _⟩ := R; exact n
  have hLs : L.length ≤ sizeLine := by
    obtain ⟨_, es, _, _, _, _, _, _, pL, _, hb, _⟩ := R
    rw [← pL.length_eq, List.length_map, Array.length_toList]
    exact fits_of_scanBound hb
  refine sorted_setX R (I.ok.hd hc) fun s' p out c ss k g o hp hg hi pm hs => ?_
  have pL' : (ss.map fun z => z.cps.toList).Perm L := by
    have := pm.map fun z : Str => z.cps.toList
    rw [List.map_map] at this
    have e : L.map ((fun z : Str => z.cps.toList) ∘ tS) = L := by
      conv => rhs; rw [← List.map_id L]
      refine List.map_congr_left fun l _ => ?_
      simp [tS]
    rwa [e] at this
  have hn : H p = none := I.hok.fresh hp
  have J : Inv X pins σ (upd H p (.lst ((ss.map fun z => z.cps.toList).map tx))) { s with heap := s'.heap, gens := s'.gens, drawn := s'.drawn, toks := s'.toks } :=
    I.call (ch := []) (Un.laid k hp hn) (I.hok.laid k hp ⟨by rw [List.length_map, pL'.length_eq]; exact hLs, out.toList, c, vals_strsT hi, hg⟩) (by rw [g]; exact I.bare) (fun _ z => nomatch z)
  have e : s' = { s with heap := s'.heap, gens := s'.gens, drawn := s'.drawn, toks := s'.toks } := by
    cases s'
    cases s
    cases o
    rfl
  rw [e]
  refine ⟨.ref p, _, J, rfl, q _ p pL' (up_strict ?_ (pL'.nodup_iff.mpr nd)) hn⟩
  rw [List.pairwise_map]
  exact sorted_pair hs
end
end L3
namespace L3
open PySem PySem.Spec PyProof.Rows L2
section
variable {X : Cx} {C f : Addr} {fd : FuncData} {k : Nat} {sp : Sp} {E : XK} {y : Str}
/-- a method run from inside a built-in -/
theorem run_own {pins : List (Addr × Obj)} {σ : L2.St} {H : Hp} {s : Shared} {ps : List Str} {us : List Value} {vs : List V} {Q : VK} {R : Value → Shared → Prop} (F : FnOkG X.prog X.w X.K X.mg X.base CX0 k f fd ps sp) (hr : Room (k + 1) X.A) (hG : X.A.guards = some []) (hb : L2.Binds X.K fd ps [])
    (I : L2.Inv X pins σ H s) (r : Vals vs us) (h : sp vs H Q E0) (hR : ∀ u s', EP X pins σ Q u s' → R u s') {E' : Value → Shared → Prop} : wpAny (model X.prog X.w) X.A.in1 (call (.ref f) us) R E' s := by
  have hl : (us ++ []).length = ps.length := by rw [List.append_nil, ← r.length]; exact F.len _ _ _ _ h
  have hb' : BindsTo s fd ⟨us, []⟩ (ps.zip us) := by
    have := hb s us I.kIn hl
    rwa [List.append_nil] at this
  refine wpAny_call (codeAny_mono (F.run X.A.in1 X.stack s H ⟨us, []⟩ us vs Q E0 hr.in1 hG I.env0.in1 hb' r h) fun r s' hq => ?_)
  cases r with
  | error e => exact (show False from hq).elim
  | ok fl =>
    cases fl with
    | ret u => exact hR u s' (I.after hq)
    | next => exact False.elim hq
    | brk => exact False.elim hq
    | cont => exact False.elim hq
/-- len(o) -/
theorem cr_lenOwn (F : FnOkG X.prog X.w X.K X.mg X.base CX0 k f fd ["self"] sp) (hr : Room (k + 1) X.A) (hG : X.A.guards = some []) (hb : L2.Binds X.K fd ["self"] []) (m : Meth X.K C "__len__" f) :
    CallR X (.builtin "len") (fun xs H Q => ∃ a dx fs, xs = [.ref a] ∧ H a = some (.ins C dx fs) ∧ sp [.ref a] H (fun v H' => ∃ n : Nat, v = .int (n : Int) ∧ n ≤ sizeLine ∧ Q (.int (n : Int)) H') E0) := by
  intro pins s σ H xs us Q I r h
  obtain ⟨a, dx, fs, rfl, ha, h⟩ := h
  rw [Vals.ref1 r]
  obtain ⟨mA, O, _⟩ := ins_get I.hok ha
  obtain ⟨od, J, _⟩ := O.look
  obtain ⟨mm, FF⟩ := I.fr
  refine PySem.W.len_K FF I.ok.mod.kin J m.at_ m.fn (run_own (vs := [.ref a]) (us := [.ref a]) F hr hG hb I (.cons rfl .nil) h fun u s' hq => ?_)
  obtain ⟨v, H', I', rv, n, rfl, hn, q⟩ := hq
  obtain ⟨t, rfl⟩ := rv
  exact ⟨⟨by omega, by rw [sizeLine_eq] at hn; omega⟩, .int (n : Int), H', I'.tok _, ⟨_, rfl⟩, q⟩
/-- repr(o) -/
theorem cr_reprOwn (F : FnOkG X.prog X.w X.K X.mg X.base CX0 k f fd ["self"] sp) (hr : Room (k + 1) X.A) (hG : X.A.guards = some []) (hb : L2.Binds X.K fd ["self"] []) (m : Meth X.K C "__repr__" f) :
    CallR X (.builtin "repr") (fun xs H Q => ∃ a dx fs, xs = [.ref a] ∧ H a = some (.ins C dx fs) ∧ sp [.ref a] H (fun v H' => ∃ z : Str, v = .str z ∧ Q (.str z) H') E0) := by
  intro pins s σ H xs us Q I r h
  obtain ⟨a, dx, fs, rfl, ha, h⟩ := h
  rw [Vals.ref1 r]
  obtain ⟨mA, O, _⟩ := ins_get I.hok ha
  obtain ⟨od, J, _⟩ := O.look
  obtain ⟨mm, FF⟩ := I.fr
  have hu := hr.units
  refine PySem.W.repr_K (by show X.A.units + 1 < cLine; omega) FF I.ok.mod.kin J m.at_ m.fn (run_own (vs := [.ref a]) (us := [.ref a]) F hr hG hb I (.cons rfl .nil) h fun u s' hq => ?_)
  obtain ⟨v, H', I', rv, z, rfl, q⟩ := hq
  obtain ⟨t, rfl⟩ := rv
  exact ⟨.str z, H', I', ⟨t, rfl⟩, q⟩
/-- x in o -/
theorem op_inOwn (F : FnOkG X.prog X.w X.K X.mg X.base CX0 k f fd ["self", y] sp) (hr : Room (k + 1) X.A) (hG : X.A.guards = some []) (hb : L2.Binds X.K fd ["self", y] []) (m : Meth X.K C "__contains__" f) :
    OpR X (compareOp .In) (fun x o H Q => ∃ a dx fs, o = .ref a ∧ H a = some (.ins C dx fs) ∧ sp [.ref a, x] H (fun v H' => ∃ b : Bool, v = .bl b ∧ Q (.bl b) H') E0) := by
  intro pins s σ H x o v u Q I rx ro h
  obtain ⟨a, dx, fs, rfl, ha, h⟩ := h
  cases ro
  obtain ⟨mA, O, _⟩ := ins_get I.hok ha
  obtain ⟨od, J, _⟩ := O.look
  obtain ⟨mm, FF⟩ := I.fr
  refine PySem.W.in_K FF I.ok.mod.kin J m.at_ m.fn ?_
  refine thn (run_fnG (vs := [.ref a, x]) (us := [.ref a, v]) (ws := [.ref a, v]) (kw := []) F (hr.mono (Nat.le_succ k)) hG pass0 I (hb s [.ref a, v] I.kIn rfl) (.cons rfl (.cons rx .nil)) h) fun u s' hq => ?_
  obtain ⟨w, H', I', rw', b, rfl, q⟩ := hq
  cases rw'
  cases b
  · exact wpAny_pure ⟨.bl false, H', I', rfl, q⟩
  · exact wpAny_pure ⟨.bl true, H', I', rfl, q⟩
/-- {e!r}, e a list or tuple of data -/
def tFmtRD (K : PySem.W.Frag) (te : TE) : TE := fun σ H Q => te σ H fun x H1 => ∃ (a : Addr) (d : PyData), x = .ref a ∧ Dp K H1 x d ∧ d.showable = true ∧ d.shown.length ≤ sizeLine ∧ d.depth ≤ 50 ∧ Q (.str d.shown) H1
theorem pe_fmtRD {e : Expr} {te : TE} {pos : Pos} (hr : Room k X.A) (hG : X.A.guards = some []) (he : PE X e te) : PE X (.FormattedValue e 114 none pos) (tFmtRD X.K te) := by
  refine ⟨fun pins s σ H Q I h => ?_⟩
  refine wpAny_FormattedValue_repr (thn (he.run pins s σ H _ I h) fun v s1 hv => ?_)
  obtain ⟨x, H1, I1, r1, a, d, rfl, hd, hs, hz, hdp, q⟩ := hv
  cases r1
  have hu := hr.units
  obtain ⟨as, hR⟩ := Dp.reads I1 d (.ref a) (.ref a) hd rfl
  refine pyReprObj_of_reads hR hs (PyData.noDict_hsm (dp_noDict (K := X.K) (H := H1) hd)) hG (by omega) (fun _ _ e => e) (fun h' t tk hk => ?_) hz
  exact wpAny_formatField_str ⟨.str d.shown, H1, I1.kept hk, ⟨_, rfl⟩, q⟩ ⟨.str d.shown, H1, (I1.kept hk).tok _, ⟨_, rfl⟩, q⟩ hz
end
end L3
namespace L3
open PySem PySem.Spec PyProof.Rows L2
/-- what is walked -/
inductive Src where
  | L (a : Addr) | T (a : Addr) | S (x : Str)
/-- its items -/
def Src.has (K : PySem.W.Frag) (H : Hp) : Src → List V → Prop
  | .L a, xs => SqL K H a xs
  | .T a, xs => SqT K H a xs
  | .S x, xs => xs = x.cps.toList.map fun c => V.str ⟨#[c]⟩
def Src.val : Src → V
  | .L a => .ref a
  | .T a => .ref a
  | .S x => .str x
def Src.it : Src → Addr → Nat → Heap → Prop
  | .L a, it, i, h => h.IsListIter it a i
  | .T a, it, i, h => h.IsTupleIter it a i
  | .S x, it, i, h => ∃ t, h.IsStrIter it (strIterType x) x t i
theorem vals_back : ∀ {xs : List V} {us : List Value} {i : Nat} {u : Value}, Vals xs us → us[i]? = some u → ∃ x, xs[i]? = some x ∧ RelV x u
  | _, _, _, _, .nil, e => by simp at e
  | _, _, 0, _, .cons r _, e => by simp at e; subst e; exact ⟨_, rfl, r⟩
  | _, _, i + 1, u, .cons _ t, e => by
    obtain ⟨x, h1, h2⟩ := vals_back (i := i) (u := u) t (by simpa using e)
    exact ⟨x, by simpa using h1, h2⟩
theorem Src.obj {z : Src} {it : Addr} {i : Nat} {h : Heap} (st : z.it it i h) : ∃ o, h.get? it = some o ∧ ∀ v, o.data ≠ .cell v := by
  cases z with
  | L a => obtain ⟨o, e, _, d⟩ := st; exact ⟨o, e, fun v q => by rw [d] at q; cases q⟩
  | T a => obtain ⟨o, e, _, d⟩ := st; exact ⟨o, e, fun v q => by rw [d] at q; cases q⟩
  | S x => obtain ⟨t, o, e, _, d⟩ := st; exact ⟨o, e, fun v q => by rw [d] at q; cases q⟩
theorem Src.keep {z : Src} {it : Addr} {i : Nat} {h h' : Heap} (st : z.it it i h) (k : ∀ o, h.get? it = some o → h'.get? it = some o) : z.it it i h' := by
  cases z with
  | L a => exact Heap.IsListIter.at st k
  | T a => exact Heap.IsTupleIter.at st k
  | S x => obtain ⟨t, o, e, r⟩ := st; exact ⟨t, o, k o e, r⟩
section
variable {X : Cx} {pins : List (Addr × Obj)} {σ : L2.St} {H : Hp} {s : Shared}
theorem Src.draws {z : Src} {xs : List V} {it : Addr} {i : Nat} (hh : X.A.handled = none) (I : L2.Inv X pins σ H s) (q : z.has X.K H xs) (st : z.it it i s.heap) (hn : ∀ a, z.val = .ref a → a ≠ it) :
    ∃ (fp : List Addr) (P : Nat → Value → Prop) (St : Nat → Heap → Prop), Draws X.prog X.w X.A.in1 it (it :: fp) xs.length P St ∧ (∀ b ∈ fp, z.val = .ref b) ∧ St i s.heap ∧ (∀ j h, St j h → z.it it j h) ∧ ∀ j v, P j v → ∃ x, xs[j]? = some x ∧ RelV x v := by
  cases z with
  | L a =>
    obtain ⟨its, rv, p, _⟩ := I.list q
    have e : its.toArray.size = xs.length := by rw [List.size_toArray, rv.length]
    refine ⟨[a], fun i v => its.toArray[i]? = some v, fun i h => h.IsListIter it a i ∧ h.IsList a its.toArray, by rw [← e]; exact Draws.list (A := X.A.in1) hh it a (hn a rfl) its.toArray, fun b hb => by rw [List.mem_singleton.mp hb]; rfl, ⟨st, p.isList⟩, fun j h k => k.1, fun j v hv => vals_back rv (by simpa using hv)⟩
  | T a =>
    obtain ⟨its, rv, p, _⟩ := I.tuple q
    have e : its.toArray.size = xs.length := by rw [List.size_toArray, rv.length]
    refine ⟨[a], fun i v => its.toArray[i]? = some v, fun i h => h.IsTupleIter it a i ∧ h.IsTuple a its.toArray, by rw [← e]; exact Draws.tuple (A := X.A.in1) hh it a (hn a rfl) its.toArray, fun b hb => by rw [List.mem_singleton.mp hb]; rfl, ⟨st, p⟩, fun j h k => k.1, fun j v hv => vals_back rv (by simpa using hv)⟩
  | S x =>
    obtain ⟨t, st⟩ := st
    have q : xs = x.cps.toList.map fun c => V.str ⟨#[c]⟩ := q
    have e : x.cps.size = xs.length := by rw [q]; simp
    refine ⟨[], fun i v => ∃ c u, x.cps[i]? = some c ∧ v = .str ⟨#[c]⟩ u, fun i h => h.IsStrIter it (strIterType x) x t i, by rw [← e]; exact Draws.text (A := X.A.in1) hh it x t, fun b hb => (by cases hb), st, fun j h k => ⟨t, k⟩, fun j v hv => ?_⟩
    obtain ⟨c, u, hc, rfl⟩ := hv
    refine ⟨.str ⟨#[c]⟩, ?_, ⟨u, rfl⟩⟩
    rw [q, List.getElem?_map]
    have : x.cps.toList[j]? = some c := by simpa using hc
    rw [this]; rfl
theorem Src.inj {z : Src} {xs ys : List V} (I : L2.Inv X pins σ H s) (h : z.has X.K H xs) (h' : z.has X.K H ys) : xs = ys := by
  cases z with
  | L a => exact I.list_inj h h'
  | T a => exact I.tuple_inj h h'
  | S x => exact (show xs = _ from h).trans (show ys = _ from h').symm
theorem Src.lt {z : Src} {xs : List V} (I : L2.Inv X pins σ H s) (q : z.has X.K H xs) : ∀ a, z.val = .ref a → a < s.heap.objs.size := by
  intro a ha
  cases z with
  | L b =>
    cases ha
    obtain ⟨its, rv, p, _⟩ := I.list q
    exact p.lt
  | T b =>
    cases ha
    obtain ⟨its, rv, ⟨o, e, _⟩, _⟩ := I.tuple q
    exact Heap.lt_size e
  | S x => cases ha
/-- iter of it -/
theorem Src.begins {z : Src} {xs : List V} {u : Value} (I : L2.Inv X pins σ H s) (q : z.has X.K H xs) (r : RelV z.val u) :
    ∃ (o : Obj) (G : Heap → Prop), Begins u o G ∧ G s.heap ∧ ∀ (h : Heap) (it : Addr), h.get? it = some o → z.it it 0 h := by
  cases z with
  | L a =>
    cases r
    obtain ⟨its, rv, p, _⟩ := I.list q
    exact ⟨_, _, begins_list a its.toArray, p.isList, fun h it e => ⟨_, e, rfl, rfl⟩⟩
  | T a =>
    cases r
    obtain ⟨its, rv, p, _⟩ := I.tuple q
    exact ⟨_, _, begins_tuple a its.toArray, p, fun h it e => ⟨_, e, rfl, rfl⟩⟩
  | S x =>
    obtain ⟨t, rfl⟩ := r
    exact ⟨_, _, begins_text x t, trivial, fun h it e => ⟨t, _, e, rfl, rfl⟩⟩
end
def ItE (K : PySem.W.Frag) (y : Src) : It :=
  ⟨fun i H => ∃ (xs : List V) (a : V), y.has K H xs ∧ xs[i]? = some a,
    fun i H v H' => ∃ T a, v = .ref T ∧ H T = none ∧ H' = upd H T (.tup [.int (i : Nat), a]) ∧ ∀ xs, y.has K H xs → xs[i]? = some a,
    fun i H => ∃ xs : List V, y.has K H xs ∧ i = xs.length⟩
theorem turn_enumS {P : Program} {w : World} {K : PySem.W.Frag} {elts : List Expr} {kk : Nat} {tpos : Pos} {N : Nat} {y : Src} (ly : ∀ a, y.val = .ref a → a < N) :
    Turn P w K (.Tuple elts kk tpos) (ItE K y) [N + 1, N] (N + 1) (fun i h => (∃ old, IsEnum h (N + 1) N ((i : Nat) : Int) old) ∧ y.it N i h) where
  mem := by simp
  obj := fun i h st b hb => by
    obtain ⟨⟨old, he⟩, h1⟩ := st
    have e' : b = N + 1 ∨ b = N := by simpa using hb
    rcases e' with q | q
    · rw [q]; exact ⟨_, he, fun v q => nomatch q⟩
    · rw [q]; exact Src.obj h1
  keep := fun i h h' st k => by
    obtain ⟨⟨old, he⟩, h1⟩ := st
    exact ⟨⟨old, k _ (by simp) _ he⟩, Src.keep h1 fun o q => k N (by simp) o q⟩
  item := by
    intro X hP hw hK hc i pins s σ H E I hf st hg
    subst hP hw hK
    obtain ⟨⟨old, he⟩, h1⟩ := st
    obtain ⟨xs, a, hqx, ha⟩ := hg
    have hh := I.ok.hd hc
    obtain ⟨fp1, P1, St1, D1, f1, s1, b1, p1⟩ := Src.draws hh I hqx h1 (fun c e => Nat.ne_of_lt (ly c e))
    have hel : N + 1 < s.heap.objs.size := Heap.lt_size he
    have l1 : i < xs.length := (List.getElem?_eq_some_iff.mp ha).1
    have hef : N + 1 ∉ N :: fp1 := fun hm => by
      rcases List.mem_cons.mp hm with e | hm
      · exact Nat.succ_ne_self N e
      · exact absurd (ly _ (f1 _ hm)) (Nat.not_lt.mpr (Nat.le_succ N))
    refine wpAny_pyNext_enum_itemD D1 he s1 l1 (Nat.succ_ne_self N) hef fun u h' tk hu ho st1 hT hsz hk => ?_
    obtain ⟨a', ea, ra⟩ := p1 i u hu
    refine ⟨_, rfl, wpAny_letOwnedTupleGo_enum (s := { s with heap := h', toks := tk + 1 }) ho fun h'' he' sb => ?_⟩
    have hT2 : h''.get? s.heap.objs.size = some { cls := .type "tuple", data := .seq #[.int i tk, u] } := (sb.2 _ (Nat.ne_of_gt (Heap.lt_size he))).trans hT
    have new : ObjOk X.prog X.w (upd H s.heap.objs.size (.tup [.int (i : Nat), a'])) h'' s.heap.objs.size (.tup [.int (i : Nat), a']) :=
      ⟨by show 2 ≤ sizeLine; decide, [.int i tk, u], .cons ⟨_, rfl⟩ (.cons ra .nil), ⟨_, hT2, rfl, _, rfl⟩⟩
    have I1 : L2.Inv X pins σ (upd H s.heap.objs.size (.tup [.int (i : Nat), a'])) { s with heap := h'', toks := tk + 1 } :=
      I.turnedNew (ch := [N + 1, N]) (fun b ob hb q => (sb.2 b (fun z => hb (by simp [z]))).trans (hk b ob (fun z => hb (by simp [z])) (fun z => hb (by simp [z])) q)) hf (Nat.le_refl _) new
    refine ⟨.ref s.heap.objs.size, _, I1, rfl, ⟨_, a', rfl, I.hok.fresh (Nat.le_refl _), rfl, fun ys hy => by rw [Src.inj I hy hqx]; exact ea⟩, ⟨⟨u, ?_⟩, Src.keep (b1 _ _ st1) fun o q => (sb.2 N (Nat.ne_of_lt (Nat.lt_succ_self N))).trans q⟩, fun b hb => ?_⟩
    · have e1 : ((i + 1 : Nat) : Int) = (i : Int) + 1 := by omega
      rw [e1]; exact he'
    · have hb' : b < s.heap.objs.size := by
        have e' : b = N + 1 ∨ b = N := by simpa using hb
        rcases e' with q | q
        · rw [q]; exact hel
        · rw [q]; exact Nat.lt_trans (Nat.lt_succ_self N) hel
      rw [upd_ne (Nat.ne_of_lt hb')]
      exact (hf b hb).1
  done := by
    intro X hP hw hK hc i pins s σ H E I hf st hg
    subst hP hw hK
    obtain ⟨⟨old, he⟩, h1⟩ := st
    obtain ⟨xs, hqx, e⟩ := hg
    have hh := I.ok.hd hc
    obtain ⟨fp1, P1, St1, D1, f1, s1, b1, p1⟩ := Src.draws hh I hqx h1 (fun c e => Nat.ne_of_lt (ly c e))
    obtain ⟨f0, f1', f2, f3, f4, f5⟩ := hf N (by simp)
    exact wpAny_pyNext_enum_endD D1 he (e ▸ s1) fun h' eb => ⟨rfl, I.turned (t' := s.toks) (fun b o hb q => eb b o hb q) f0 f1' f3 f4 f5⟩
  self := fun A i s Q E st h => let ⟨⟨_, he⟩, _⟩ := st; wpAny_pyIter_enum he h
theorem meets_enum1 {v : Value} {o : Obj} {G : Heap → Prop} (B : Begins v o G) :
    Meets (Builtin.«enumerate.__new__» ⟨[.type "enumerate", v], []⟩) (fun _ R s => G s.heap ∧
      R (.ok (.ret (.ref (s.heap.push o).objs.size))) { s with heap := (s.heap.push o).push { cls := .type "enumerate", data := .fields #[.none, .bool false, .ref s.heap.objs.size, rawInt 0, .none, .none] } }) :=
  .of_wp fun prog w A R s h => by
    obtain ⟨hp, g, d, tk, os⟩ := s; obtain ⟨h1, h⟩ := h
    have hsub := sub_enumerate
    have q1 : ∀ {A' : Around} {E : Value → Shared → Prop} {Q : Value → Shared → Prop}, Q (.ref hp.objs.size) ⟨hp.push o, g, d, tk, os⟩ → wpAny (model prog w) A' (pyIter v) Q E ⟨hp, g, d, tk, os⟩ :=
      fun q => B.iter prog w _ _ ⟨hp, g, d, tk, os⟩ _ h1 q
    wp_walk using q1
    refine wpAny_stack_any fun st => wpAny_pure ?_
    split
    · rename_i c _ _ _ _ _
      cases (c == Value.type "enumerate")
      · wp_walk using q1
        exact ⟨_, rfl, h⟩
      · wp_walk using q1
        exact ⟨_, rfl, h⟩
    · wp_walk using q1
      exact ⟨_, rfl, h⟩
theorem enum_begins1 {prog : Program} {w : World} {A : Around} {E : Value → Shared → Prop} {s : Shared} {v : Value} {o : Obj} {G : Heap → Prop} {Q : Value → Shared → Prop} (B : Begins v o G) (h1 : G s.heap)
    (h : ∀ h', IsEnum h' (s.heap.objs.size + 1) s.heap.objs.size 0 .none → h'.get? s.heap.objs.size = some o → h'.objs.size = s.heap.objs.size + 2 →
      (∀ b o, s.heap.get? b = some o → h'.get? b = some o) → Q (.ref (s.heap.objs.size + 1)) { s with heap := h' }) :
    wpAny (model prog w) A (call (.type "enumerate") [v]) Q E s := by
  refine callType_new F.called_enumerate (by decide) (F.typeCall_enumerate_1 _) (F.newCall_enumerate_1 _) (fun obj => F.args_object_init_2 obj _) F.entry_enumerate_new (meets_enum1 B) ⟨h1, ?_⟩
  have hz : (s.heap.push o).objs.size = s.heap.objs.size + 1 := Heap.size_push ..
  show _ ∧ _
  rw [hz]
  have he : IsEnum ((s.heap.push o).push { cls := .type "enumerate", data := .fields #[.none, .bool false, .ref s.heap.objs.size, rawInt 0, .none, .none] }) (s.heap.objs.size + 1) s.heap.objs.size 0 .none := by
    have := Heap.get?_push_size (s.heap.push o) (o := { cls := .type "enumerate", data := .fields #[.none, .bool false, .ref s.heap.objs.size, rawInt 0, .none, .none] }) rfl
    rw [hz] at this; exact this
  exact ⟨⟨_, he, rfl⟩, h _ he (Heap.get?_push_of_some _ (Heap.get?_push_size _ B.free)) (by rw [Heap.size_push, hz]) fun b o x => Heap.get?_push_of_some _ (Heap.get?_push_of_some _ x)⟩
/-- enumerate(e) -/
def iEnumS (K : PySem.W.Frag) (ta : TA) : TI := fun σ H R => ta σ H fun vs H1 => ∃ (y : Src) (xs : List V), vs = [y.val] ∧ y.has K H1 xs ∧ R (ItE K y) H1
theorem pi_enumS {X : Cx} {e : Expr} {ta : TA} {p pos tpos : Pos} {elts : List Expr} {kk : Nat} (hg : Gl X "enumerate") (hm : X.mg "enumerate" = none) (ha : PA X [e] ta) (hs : starEach [e] X.env = [(false, eval e X.env)] := by rfl) :
    PI X (.Tuple elts kk tpos) (.Call (.Name "enumerate" p) [e] [] pos) (iEnumS X.K ta) := by
  refine ⟨fun pins s σ H R I h => ?_⟩
  refine Call_ (ld_blt I hg hm boot_enumerate (PyProof.Rows.callWith_type1 (thn (ha.run pos pins s σ H _ I h) fun us s1 ⟨vs, H1, I1, r1, q1⟩ => ?_) hs rfl))
  obtain ⟨y, xs, ex, hq, q⟩ := q1
  subst ex
  cases r1 with
  | cons r rr =>
    cases rr
    obtain ⟨o1, G1, B1, g1, k1⟩ := Src.begins I1 hq r
    refine enum_begins1 B1 g1 fun h' he c1 hsz hk => wpAny_pyIter_enum he ?_
    have I2 : L2.Inv X pins σ H1 { s1 with heap := h' } := I1.kept (t' := s1.toks) hk
    refine ⟨s1.heap.objs.size + 1, [s1.heap.objs.size + 1, s1.heap.objs.size], _, _, H1, rfl, I2, turn_enumS (Src.lt I1 hq), ⟨⟨.none, he⟩, k1 _ _ c1⟩, fun b hb => ?_, q⟩
    have e' : b = s1.heap.objs.size + 1 ∨ b = s1.heap.objs.size := by simpa using hb
    have hle : s1.heap.objs.size ≤ b := by rcases e' with q | q <;> rw [q] <;> omega
    exact I1.fpOk hle (I1.hok.fresh hle)
theorem walk_enumS {K : PySem.W.Frag} {y : Src} {xs : List V} : Walk (ItE K y) xs.length (fun H => y.has K H xs) (YPair (fun i => some (.int (i : Nat))) (fun i => xs[i]?)) := by
  refine ⟨fun i _ hi q => ⟨xs, xs[i], q, by simp [hi]⟩, fun _ q => ⟨xs, q, rfl⟩, fun i H v H' _ q y => ?_⟩
  obtain ⟨T, x, h1, h2, h3, h4⟩ := y
  exact ⟨T, .int (i : Nat), x, h1, h2, h3, rfl, h4 xs q⟩
end L3
namespace L3
open PySem PySem.Spec PyProof.Rows L2
section
variable {M : Model} {prog : Program} {w : World} {A : Around} {E : Value → Shared → Prop} {s : Shared} {K : PySem.W.Frag} {x C f : Addr} {ox : Obj} {od : Option Obj} {b tb : Value}
theorem ne_entry {Q : PySem.Fin → Shared → Prop} (hu : A.units < cLine) (X : K.In s.heap) (I : PySem.W.InstAt s.heap x ox C od) (hs : PySem.W.findIn K (.ref C) "__eq__" = some (some (.ref f))) (hf : PySem.W.isFn K (.ref f) = true)
    (hcall : wpAny (model prog w) A (call (.ref f) [.ref x, b]) (fun v s' => ∃ z, v = .bool z ∧ Q (.done (.ret (.bool (!z)))) s') E s) :
    wpAny (model prog w) A (Builtin.«object.__ne__» ⟨[.ref x, b], []⟩) Q E s := by
  unfold Builtin.«object.__ne__»
  repeat (first
    | with_reducible refine wpAny_cRoomFor hu ?_
    | (refine wpAny_bind (m := callSpecialIfBound? (.ref x) (Str.ofString "__eq__") [b])
        (PySem.W.ifBound_K X I hs hf (wpAny_mono hcall (fun r s' hr => by
          obtain ⟨b, rfl, hq⟩ := hr
          repeat (first | exact hq | exact wpAny_pure hq | exact wpAny_truthy_bool hq | (refine wpAny_bind (m := truthy (.bool _)) (wpAny_truthy_bool ?_)) | wp_step)) fun _ _ e => e)))
    | wp_step)
theorem ifBound_ne {args : List Value} {Q : Option Value → Shared → Prop} (X : K.In s.heap) (I : PySem.W.InstAt s.heap x ox C od) (hs : PySem.W.findIn K (.ref C) "__ne__" = some (some (.builtin "object.__ne__")))
    (h : wpAny M A (call (.builtin "object.__ne__") (.ref x :: args)) (fun v => Q (some v)) E s) : wpAny M A (callSpecialIfBound? (.ref x) "__ne__" args) Q E s := by
  simp only [callSpecialIfBound?, bindSpecialIfBound?]
  refine wpAny_holding (wpAny_bind (wpAny_bind (wpAny_bind (I.type.here ((PySem.W.looks_findIn X hs).here ?_)))))
  refine wpAny_bind (wpAny_askSetting (wpAny_ite ?_))
  have fin : wpAny M A (call (.builtin "object.__ne__") ([.ref x] ++ args) >>= fun v => pure (some v)) Q E s := wpAny_bind (wpAny_mono h (fun v s' h' => wpAny_pure h') fun _ _ h' => h')
  split
  · exact wpAny_bind (wpAny_of_eq (F.cmp_object.ne.bind _) (wpAny_pure (by exact fin)))
  · exact wpAny_tryCatch (wpAny_bind (wpAny_of_eq (F.cmp_object.ne.bind _) (wpAny_pure (by exact fin))))
theorem rc_ne {Q : Value → Shared → Prop} (hu : A.units + 1 < cLine) (X : K.In s.heap) (I : PySem.W.InstAt s.heap x ox C od) (hb : PySem.W.Looks (model prog w) s.heap (typeOf b) tb) (hn : PySem.W.notFirst K C tb = true)
    (hm : PySem.W.mroIn K C (.type "object") = some true) (hne : PySem.W.findIn K (.ref C) "__ne__" = some (some (.builtin "object.__ne__"))) (hs : PySem.W.findIn K (.ref C) "__eq__" = some (some (.ref f))) (hf : PySem.W.isFn K (.ref f) = true)
    (h : wpAny (model prog w) A.in1 (call (.ref f) [.ref x, b]) (fun v s' => ∃ z, v = .bool z ∧ Q (.bool (!z)) s') E s) : wpAny (model prog w) A (richCompare .NotEq (.ref x) b) Q E s := by
  have one : wpAny (model prog w) A (tryCompare (.ref x) "__ne__" b) (fun r s' => ∃ v, r = some v ∧ Q v s') E s := by
    unfold tryCompare
    refine wpAny_bind (ifBound_ne X I hne (wpAny_call (codeAny_call_builtin F.cmp_object.ne.plain F.cmpEntry_ne (PySem.W.check_slot F.cmpKind_ne F.cmpSplit_ne (I.type.andThen (PySem.W.looks_mroIn X hm)) (F.cmpArgs_ne _ _)
      (ne_entry (A := A.in1) hu X I hs hf (wpAny_mono h (fun v s' hv => ?_) fun _ _ e => e))))))
    obtain ⟨z, rfl, hq⟩ := hv
    first | exact ⟨z, rfl, wpAny_pure ⟨_, rfl, hq⟩⟩ | exact ⟨z, rfl, wpAny_pure (wpAny_pure ⟨_, rfl, hq⟩)⟩ | exact ⟨z, rfl, ⟨_, rfl, hq⟩⟩
  unfold richCompare
  simp only [oneThing_ref]
  refine wpAny_holding (wpAny_bind (wpAny_cRoomFor (Nat.lt_of_succ_lt hu) ?_))
  refine wpAny_bind (I.type.here (wpAny_bind (hb.here ?_)))
  rw [cmpInfo_NotEq]
  dsimp only
  split
  · rename_i q
    have e : PySem.W.subIn K tb (.ref C) = some false := by
      rcases Bool.or_eq_true_iff.mp hn with e | e
      · rw [beq_iff_eq.mp e] at q; simp at q
      · exact beq_iff_eq.mp e
    refine wpAny_bind ((PySem.W.looks_subIn X e).here ?_)
    simp only [Bool.false_eq_true, if_false]
    refine wpAny_bind (wpAny_mono one (fun r s' z => ?_) fun _ _ e => e)
    obtain ⟨v, rfl, hq⟩ := z
    exact wpAny_pure hq
  · refine wpAny_bind (wpAny_pure ?_)
    simp only [Bool.false_eq_true, if_false]
    refine wpAny_bind (wpAny_mono one (fun r s' z => ?_) fun _ _ e => e)
    obtain ⟨v, rfl, hq⟩ := z
    exact wpAny_pure hq
end
section
variable {X : Cx} {C f : Addr} {fd : FuncData} {k : Nat} {sp : Sp} {y : Str}
theorem looks_of {pins : List (Addr × Obj)} {σ : L2.St} {H : Hp} {s : Shared} {x : V} {u t : Value} (I : L2.Inv X pins σ H s) (rx : RelV x u) (ty : TyX X.K H x t) : PySem.W.Looks (model X.prog X.w) s.heap (typeOf u) t := by
  obtain ⟨P, Z, p, _⟩ := kit_of I rx ty
  exact Z.ty _ _ I.kIn p
/-- o == x -/
theorem op_eqOwn (F : FnOkG X.prog X.w X.K X.mg X.base CX0 k f fd ["self", y] sp) (hr : Room k X.A) (hG : X.A.guards = some []) (hb : L2.Binds X.K fd ["self", y] []) (m : Meth X.K C "__eq__" f) :
    OpR X (compareOp .Eq) (fun o x H Q => ∃ a dx fs t, o = .ref a ∧ H a = some (.ins C dx fs) ∧ TyX X.K H x t ∧ PySem.W.notFirst X.K C t = true ∧ sp [.ref a, x] H (fun v H' => ∃ b : Bool, v = .bl b ∧ Q (.bl b) H') E0) := by
  intro pins s σ H o x v u Q I ro rx h
  obtain ⟨a, dx, fs, t, rfl, ha, ty, hn, h⟩ := h
  cases ro
  obtain ⟨mA, O, _⟩ := ins_get I.hok ha
  obtain ⟨od, J, _⟩ := O.look
  obtain ⟨mm, FF⟩ := I.fr
  show wpAny (model X.prog X.w) X.A (richCompare .Eq (.ref a) u) _ _ s
  refine PySem.W.cmp_K (op := .Eq) hr.units0 FF I.ok.mod.kin J (looks_of I rx ty) hn m.at_ m.fn ?_
  refine thn (run_fnG (vs := [.ref a, x]) (us := [.ref a, u]) (ws := [.ref a, u]) (kw := []) F hr hG pass0 I (hb s [.ref a, u] I.kIn rfl) (.cons rfl (.cons rx .nil)) h) fun w s' hq => ?_
  obtain ⟨v, H', I', rv, b, rfl, q⟩ := hq
  cases rv
  exact (show EP X pins σ Q (.bool b) s' from ⟨.bl b, H', I', rfl, q⟩)
/-- o != x -/
theorem op_neOwn (F : FnOkG X.prog X.w X.K X.mg X.base CX0 k f fd ["self", y] sp) (hr : Room (k + 1) X.A) (hG : X.A.guards = some []) (hb : L2.Binds X.K fd ["self", y] []) (m : Meth X.K C "__eq__" f)
    (hm : PySem.W.mroIn X.K C (.type "object") = some true) (hne : PySem.W.findIn X.K (.ref C) "__ne__" = some (some (.builtin "object.__ne__"))) :
    OpR X (compareOp .NotEq) (fun o x H Q => ∃ a dx fs t, o = .ref a ∧ H a = some (.ins C dx fs) ∧ TyX X.K H x t ∧ PySem.W.notFirst X.K C t = true ∧ sp [.ref a, x] H (fun v H' => ∃ b : Bool, v = .bl b ∧ Q (.bl (!b)) H') E0) := by
  intro pins s σ H o x v u Q I ro rx h
  obtain ⟨a, dx, fs, t, rfl, ha, ty, hn, h⟩ := h
  cases ro
  obtain ⟨mA, O, _⟩ := ins_get I.hok ha
  obtain ⟨od, J, _⟩ := O.look
  show wpAny (model X.prog X.w) X.A (richCompare .NotEq (.ref a) u) _ _ s
  have hu := hr.units
  refine rc_ne (by omega) I.kIn J (looks_of I rx ty) hn hm hne m.at_ m.fn ?_
  refine run_own (vs := [.ref a, x]) (us := [.ref a, u]) F hr hG hb I (.cons rfl (.cons rx .nil)) h fun w s' hq => ?_
  obtain ⟨v, H', I', rv, b, rfl, q⟩ := hq
  cases rv
  exact ⟨b, rfl, .bl (!b), H', I', rfl, q⟩
end
end L3
namespace L3
open PySem PySem.Spec PyProof.Rows L2
/-- numbers as values -/
def nV (l : List Nat) : List V := l.map fun (n : Nat) => V.int (n : Int)
theorem nV_len (l : List Nat) : (nV l).length = l.length := by unfold nV; rw [List.length_map]
theorem nV_get {l : List Nat} {i n : Nat} (h : l[i]? = some n) : (nV l)[i]? = some (V.int (n : Int)) := by unfold nV; rw [List.getElem?_map, h]; rfl
theorem nV_inv {l : List Nat} {i : Nat} {v : V} (h : (nV l)[i]? = some v) : ∃ n, l[i]? = some n ∧ v = V.int (n : Int) := by
  unfold nV at h
  rw [List.getElem?_map] at h
  obtain ⟨n, h1, h2⟩ := Option.map_eq_some_iff.mp h
  exact ⟨n, h1, h2.symm⟩
theorem nV_flat (l : List Nat) : (nV l).all flatV = true := by
  rw [List.all_eq_true]
  intro x hx
  obtain ⟨n, _, rfl⟩ := List.mem_map.mp hx
  rfl
theorem eqV_int (a b : Nat) : eqV (.int (a : Int)) (.int (b : Int)) = decide (a = b) := by
  show ((a : Int) == (b : Int)) = _
  by_cases h : a = b
  · subst h; simp
  · rw [decide_eq_false h]; exact beq_eq_false_iff_ne.mpr (by omega)
theorem nV_in (n : Nat) (l : List Nat) : inV (.int (n : Int)) (nV l) = decide (n ∈ l) := by
  unfold inV nV
  rw [List.any_map]
  by_cases h : n ∈ l
  · rw [decide_eq_true h, List.any_eq_true]
    exact ⟨n, h, by show eqV (.int (n : Int)) (.int (n : Int)) = true; rw [eqV_int]; exact decide_eq_true rfl⟩
  · rw [decide_eq_false h, List.any_eq_false]
    intro x hx e
    have e : eqV (.int (x : Int)) (.int (n : Int)) = true := e
    rw [eqV_int] at e
    exact h (of_decide_eq_true e ▸ hx)
theorem idx_first : ∀ {l : List Nat} {n m k : Nat}, m < l.idxOf n → l[m]? = some k → k ≠ n
  | [], n, m, k, hm, h => by simp at h
  | a :: l, n, m, k, hm, h => by
    rw [List.idxOf_cons] at hm
    by_cases e : a = n
    · subst e; simp at hm
    · have e' : (a == n) = false := by simpa using e
      rw [e'] at hm
      simp only [cond_false] at hm
      cases m with
      | zero => simp at h; subst h; exact e
      | succ m => exact idx_first (l := l) (m := m) (by omega) (by simpa using h)
mutual
theorem Dp.same {K : PySem.W.Frag} {H H' : Hp} (s : Same H H') : ∀ {v : V} {d : PyData}, Dp K H v d → Dp K H' v d
  | _, _, .non => .non
  | _, _, .bl b => .bl b
  | _, _, .int i => .int i
  | _, _, .str x => .str x
  | _, _, .lst h a => .lst (sq_same h s) (DpAll.same s a)
  | _, _, .tup h a => .tup (h.elim (fun h => .inl (h.elim (fun h => .inl (s _ _ h)) fun ⟨o, h⟩ => .inr ⟨o, s _ _ h⟩)) fun h => .inr h) (DpAll.same s a)
theorem DpAll.same {K : PySem.W.Frag} {H H' : Hp} (s : Same H H') : ∀ {vs : List V} {ds : List PyData}, DpAll K H vs ds → DpAll K H' vs ds
  | _, _, .nil => .nil
  | _, _, .cons a b => .cons (Dp.same s a) (DpAll.same s b)
end
theorem sqT_same {K : PySem.W.Frag} {a : Addr} {xs : List V} {H H' : Hp} (h : SqT K H a xs) (s : Same H H') : SqT K H' a xs :=
  h.elim (fun h => .inl (h.elim (fun h => .inl (s _ _ h)) fun ⟨o, h⟩ => .inr ⟨o, s _ _ h⟩)) fun h => .inr h
section
variable {K : PySem.W.Frag} {H : Hp}
theorem dp_list {v : V} {ds : List PyData} (h : Dp K H v (.list ds)) : ∃ a xs, v = .ref a ∧ SqL K H a xs ∧ DpAll K H xs ds := by
  cases h with
  | lst h a => exact ⟨_, _, rfl, h, a⟩
theorem dp_tuple {v : V} {ds : List PyData} (h : Dp K H v (.tuple ds)) : ∃ a xs, v = .ref a ∧ SqT K H a xs ∧ DpAll K H xs ds := by
  cases h with
  | tup h a => exact ⟨_, _, rfl, h, a⟩
theorem dp_int {v : V} {n : Int} (h : Dp K H v (.int n)) : v = .int n := by cases h; rfl
theorem dp_bool {v : V} {b : Bool} (h : Dp K H v (.bool b)) : v = .bl b := by cases h; rfl
theorem dpAll_len : ∀ {xs : List V} {ds : List PyData}, DpAll K H xs ds → xs.length = ds.length
  | _, _, .nil => rfl
  | _, _, .cons _ t => by rw [List.length_cons, List.length_cons, dpAll_len t]
theorem dpAll_get : ∀ {xs : List V} {ds : List PyData} {i : Nat} {d : PyData}, DpAll K H xs ds → ds[i]? = some d → ∃ x, xs[i]? = some x ∧ Dp K H x d
  | _, _, _, _, .nil, e => by simp at e
  | _, _, 0, _, .cons h _, e => by simp at e; subst e; exact ⟨_, rfl, h⟩
  | _, _, i + 1, d, .cons _ t, e => by
    obtain ⟨x, h1, h2⟩ := dpAll_get (i := i) (d := d) t (by simpa using e)
    exact ⟨x, by simpa using h1, h2⟩
theorem dpAll_back : ∀ {xs : List V} {ds : List PyData} {i : Nat} {x : V}, DpAll K H xs ds → xs[i]? = some x → ∃ d, ds[i]? = some d ∧ Dp K H x d
  | _, _, _, _, .nil, e => by simp at e
  | _, _, 0, _, .cons h _, e => by simp at e; subst e; exact ⟨_, rfl, h⟩
  | _, _, i + 1, x, .cons _ t, e => by
    obtain ⟨d, h1, h2⟩ := dpAll_back (i := i) (x := x) t (by simpa using e)
    exact ⟨d, by simpa using h1, h2⟩
theorem dpAll_app : ∀ {xs ys : List V} {ds es : List PyData}, DpAll K H xs ds → DpAll K H ys es → DpAll K H (xs ++ ys) (ds ++ es)
  | _, _, _, _, .nil, b => b
  | _, _, _, _, .cons h t, b => .cons h (dpAll_app t b)
/-- by places -/
theorem dpAll_of : ∀ {xs : List V} {ds : List PyData}, xs.length = ds.length → (∀ (i : Nat) (x : V) (d : PyData), xs[i]? = some x → ds[i]? = some d → Dp K H x d) → DpAll K H xs ds
  | [], [], _, _ => .nil
  | x :: xs, d :: ds, hl, h => .cons (h 0 x d rfl rfl) (dpAll_of (by simpa using hl) fun i x' d' h1 h2 => h (i + 1) x' d' (by simpa using h1) (by simpa using h2))
def dN (l : List Nat) : List PyData := l.map fun (n : Nat) => PyData.int (n : Int)
def dB (l : List Bool) : List PyData := l.map PyData.bool
theorem dpAll_nV : ∀ l : List Nat, DpAll K H (nV l) (dN l)
  | [] => .nil
  | n :: l => .cons (.int _) (dpAll_nV l)
theorem dpAll_nats : ∀ {l : List Nat} {xs : List V}, DpAll K H xs (dN l) → xs = nV l
  | [], _, .nil => rfl
  | n :: l, _, .cons h t => by rw [dp_int h, dpAll_nats t]; rfl
theorem dpAll_bools : ∀ {l : List Bool} {xs : List V}, DpAll K H xs (dB l) → xs = l.map V.bl
  | [], _, .nil => rfl
  | n :: l, _, .cons h t => by rw [dp_bool h, dpAll_bools t]; rfl
end
/-- a list or a tuple with these items -/
def Sq (K : PySem.W.Frag) (H : Hp) (v : V) (xs : List V) : Prop := ∃ a, v = .ref a ∧ (SqL K H a xs ∨ SqT K H a xs)
theorem Sq.same {K : PySem.W.Frag} {H H' : Hp} {v : V} {xs : List V} (h : Sq K H v xs) (s : Same H H') : Sq K H' v xs := by
  obtain ⟨a, e, h⟩ := h
  exact ⟨a, e, h.elim (fun h => .inl (sq_same h s)) fun h => .inr (sqT_same h s)⟩
theorem sq_list {K : PySem.W.Frag} {H : Hp} {a : Addr} {xs : List V} (h : SqL K H a xs) : Sq K H (.ref a) xs := ⟨a, rfl, .inl h⟩
theorem sq_tuple {K : PySem.W.Frag} {H : Hp} {a : Addr} {xs : List V} (h : SqT K H a xs) : Sq K H (.ref a) xs := ⟨a, rfl, .inr h⟩
/-- the iterator of a list or a tuple -/
def iSq (K : PySem.W.Frag) (tl : TE) : TI := fun σ H R => tl σ H fun x H1 => ∃ xs H0, Sq K H0 x xs ∧ Same H0 H1 ∧ ∀ J G, Walk J xs.length G (YAt xs) → (∀ H', Same H0 H' → G H') → R J H1
theorem pi_sq {X : Cx} {tg l : Expr} {tl : TE} (hl : PE X l tl) : PI X tg l (iSq X.K tl) := by
  refine ⟨fun pins s σ H R I h => ?_⟩
  refine thn (hl.run pins s σ H _ I h) fun v s1 ⟨x, H1, I1, r1, q1⟩ => ?_
  obtain ⟨xs, H0, ⟨a, e, hq⟩, sm, q⟩ := q1
  subst e
  cases r1
  have fresh : ∀ b, b ∈ [s1.heap.objs.size] → FpOk X pins H1 b := fun b hb => by
    have e : b = s1.heap.objs.size := by simpa using hb
    subst e
    exact I1.fpOk (Nat.le_refl _) (I1.hok.fresh (Nat.le_refl _))
  rcases hq with hq | hq
  · obtain ⟨its, rv, p, hz⟩ := I1.list (sq_same hq sm)
    refine wpAny_pyIter_list p.isList ?_
    exact ⟨s1.heap.objs.size, [s1.heap.objs.size], _, _, H1, rfl, I1.kept (t' := s1.toks) fun b o e => Heap.get?_push_of_some _ e, turn_list a _, ⟨_, Heap.get?_push_size _ rfl, rfl, rfl⟩, fresh, q _ _ walk_list fun H' s' => sq_same hq s'⟩
  · obtain ⟨its, rv, p, hz⟩ := I1.tuple (sqT_same hq sm)
    refine wpAny_pyIter_tuple p ?_
    exact ⟨s1.heap.objs.size, [s1.heap.objs.size], _, _, H1, rfl, I1.kept (t' := s1.toks) fun b o e => Heap.get?_push_of_some _ e, turn_tuple a _, ⟨_, Heap.get?_push_size _ rfl, rfl, rfl⟩, fresh, q _ _ walk_tup fun H' s' => sqT_same hq s'⟩
/-- as what zip or enumerate walks -/
theorem sq_src {K : PySem.W.Frag} {H : Hp} {v : V} {xs : List V} (h : Sq K H v xs) : ∃ y : Src, v = y.val ∧ ∀ H', Same H H' → y.has K H' xs := by
  obtain ⟨a, rfl, h | h⟩ := h
  · exact ⟨.L a, rfl, fun H' s => sq_same h s⟩
  · exact ⟨.T a, rfl, fun H' s => sqT_same h s⟩
section
variable {X : Cx}
/-- x[i] of either -/
theorem ix_sq : IxR X (fun x y H Q => ∃ xs i v, Sq X.K H x xs ∧ y = .int i ∧ atI xs i = some v ∧ Q v H) := by
  intro value slice pins s σ H x y v u Q I rx ry h hs
  obtain ⟨xs, i, w, ⟨a, rfl, h⟩, rfl, hat, q⟩ := h
  rcases h with h | h
  · exact ix_list value slice pins s σ H _ _ v u Q I rx ry ⟨a, xs, i, w, rfl, rfl, h, hat, q⟩ hs
  · exact ix_tup value slice pins s σ H _ _ v u Q I rx ry ⟨a, xs, i, w, rfl, rfl, h, hat, q⟩ hs
/-- text.index(letter) -/
theorem mt_indexT : MtR X "str.index" (fun x xs H Q => ∃ (l : List Nat) (c : Nat), x = tx l ∧ xs = [tx [c]] ∧ c ∈ l ∧ Q (.int ((l.idxOf c : Nat) : Int)) H) := by
  intro pins s σ H x xs v us Q I rx r h
  obtain ⟨l, c, rfl, rfl, hc, q⟩ := h
  rcases StrLaws.occ_head (tS l) (tS [c]) 1 (Nat.le_refl 1) with ⟨_, hn⟩ | ⟨i, rest, ho, hat, hn⟩
  · obtain ⟨j, hj⟩ := List.mem_iff_getElem?.mp hc
    exact absurd ((StrLaws.subAt_one (tS l) c j).mpr (by simpa [tS] using hj)) (hn j)
  · refine mt_sindex pins s σ H _ _ v us Q I rx r ⟨_, _, i, rest, rfl, rfl, ho, ?_⟩
    have h1 : l[i]? = some c := by
      have := (StrLaws.subAt_one (tS l) c i).mp hat
      simpa [tS] using this
    have h2 : ∀ m, m < i → l[m]? ≠ some c := fun m hm z => hn m hm ((StrLaws.subAt_one (tS l) c m).mpr (by simpa [tS] using z))
    have e : l.idxOf c = i := by
      obtain ⟨hi, e1⟩ := List.getElem?_eq_some_iff.mp h1
      have h3 : l.idxOf c < l.length := List.idxOf_lt_length_of_mem hc
      have h4 : l[l.idxOf c] = c := List.getElem_idxOf h3
      rcases Nat.lt_trichotomy (l.idxOf c) i with z | z | z
      · exact absurd (by rw [List.getElem?_eq_getElem h3, h4]) (h2 _ z)
      · exact z
      · exact absurd rfl (idx_first z h1)
    rw [← e] at *
    exact q
/-- numbers.index(n) -/
theorem mt_indexN : MtR X "list.index" (fun x xs H Q => ∃ (a : Addr) (l : List Nat) (n : Nat), x = .ref a ∧ xs = [.int (n : Int)] ∧ SqL X.K H a (nV l) ∧ n ∈ l ∧ Q (.int ((l.idxOf n : Nat) : Int)) H) := by
  intro pins s σ H x xs v us Q I rx r h
  obtain ⟨a, l, n, rfl, rfl, hS, hn, q⟩ := h
  have h3 : l.idxOf n < l.length := List.idxOf_lt_length_of_mem hn
  refine mt_index pins s σ H _ _ v us Q I rx r ⟨a, nV l, .int (n : Int), l.idxOf n, .int (n : Int), rfl, rfl, hS, rfl, nV_flat l, nV_get ?_, ?_, fun m z hm hz => ?_, q⟩
  · rw [List.getElem?_eq_getElem h3, List.getElem_idxOf h3]
  · rw [eqV_int]; exact decide_eq_true rfl
  · obtain ⟨k, hk, rfl⟩ := nV_inv hz
    rw [eqV_int]
    exact decide_eq_false (idx_first hm hk)
theorem op_notInN : OpR X (compareOp .NotIn) (fun x y H Q => ∃ (l : List Nat) (n : Nat), x = .int (n : Int) ∧ Sq X.K H y (nV l) ∧ Q (.bl (!decide (n ∈ l))) H) := by
  intro pins s σ H x y v u Q I rx ry h
  obtain ⟨l, n, rfl, ⟨a, rfl, hS⟩, q⟩ := h
  exact op_notIn_seq pins s σ H _ _ v u Q I rx ry ⟨a, nV l, rfl, hS, rfl, nV_flat l, by rw [nV_in]; exact q⟩
end
structure Wt (d : PyData) (w k : Nat) : Prop where
  s : d.showable = true
  l : d.leavesShort 10 = true
  c : d.canLay0 = true
  w : d.weight ≤ w
  p : d.depth ≤ k
theorem Wt.shw {d : PyData} {w k : Nat} (h : Wt d w k) (hw : w ≤ 1048576) (hk : k ≤ 50) : Shw d :=
  ⟨h.s, PyData.shown_fits (B := 10) (by decide) (by decide) h.l (Nat.le_trans h.w (Nat.le_trans hw (by decide))), Nat.le_trans h.p hk⟩
theorem Wt.shaped {d : PyData} {w k : Nat} (h : Wt d w k) (hk : k ≤ 64) : SeqAt.shaped d = true := by
  show (d.canLay0 && decide (d.depth ≤ 64)) = true
  rw [h.c, decide_eq_true (Nat.le_trans h.p hk)]
  rfl
theorem Wt.mono {d : PyData} {w k w' k' : Nat} (h : Wt d w k) (hw : w ≤ w') (hk : k ≤ k') : Wt d w' k' := ⟨h.s, h.l, h.c, Nat.le_trans h.w hw, Nat.le_trans h.p hk⟩
theorem wt_all {w k : Nat} : ∀ {ds : List PyData}, (∀ d ∈ ds, Wt d w k) → PyData.showableAll ds = true ∧ PyData.leavesShortAll 10 ds = true ∧ PyData.canLayAll0 ds = true ∧ PyData.weightAll ds ≤ (w + 1) * ds.length ∧ PyData.depthAll ds ≤ k
  | [], _ => ⟨rfl, rfl, rfl, Nat.zero_le _, Nat.zero_le _⟩
  | d :: ds, h => by
    have h1 := h d List.mem_cons_self
    obtain ⟨a, b, c, e, f⟩ := wt_all (ds := ds) fun x hx => h x (List.mem_cons_of_mem _ hx)
    refine ⟨?_, ?_, ?_, ?_, ?_⟩
    · show (PyData.showable d && PyData.showableAll ds) = true
      rw [h1.s, a]; rfl
    · show (PyData.leavesShort 10 d && PyData.leavesShortAll 10 ds) = true
      rw [h1.l, b]; rfl
    · show (PyData.canLay0 d && PyData.canLayAll0 ds) = true
      rw [h1.c, c]; rfl
    · show PyData.weight d + 1 + PyData.weightAll ds ≤ _
      have := h1.w
      rw [List.length_cons, Nat.mul_succ]
      omega
    · show max (PyData.depth d) (PyData.depthAll ds) ≤ k
      exact Nat.max_le.mpr ⟨h1.p, f⟩
theorem Wt.list {w k n : Nat} {ds : List PyData} (h : ∀ d ∈ ds, Wt d w k) (hn : ds.length ≤ n) : Wt (.list ds) ((w + 1) * n) (k + 1) := by
  obtain ⟨a, b, c, e, f⟩ := wt_all h
  have hm : (w + 1) * ds.length ≤ (w + 1) * n := Nat.mul_le_mul_left _ hn
  exact ⟨by simpa only [PyData.showable] using a, by simpa only [PyData.leavesShort] using b, by simpa only [PyData.canLay0] using c, by simp only [PyData.weight]; omega, by simp only [PyData.depth]; omega⟩
theorem Wt.tuple {w k n : Nat} {ds : List PyData} (h : ∀ d ∈ ds, Wt d w k) (hn : ds.length ≤ n) : Wt (.tuple ds) ((w + 1) * n) (k + 1) := by
  obtain ⟨a, b, c, e, f⟩ := wt_all h
  have hm : (w + 1) * ds.length ≤ (w + 1) * n := Nat.mul_le_mul_left _ hn
  exact ⟨by simpa only [PyData.showable] using a, by simpa only [PyData.leavesShort] using b, by simpa only [PyData.canLay0] using c, by simp only [PyData.weight]; omega, by simp only [PyData.depth]; omega⟩
theorem Wt.non : Wt .none 0 0 := ⟨rfl, rfl, rfl, by simp [PyData.weight], by simp [PyData.depth]⟩
theorem Wt.bool (b : Bool) : Wt (.bool b) 0 0 := ⟨rfl, rfl, rfl, by simp [PyData.weight], by simp [PyData.depth]⟩
theorem Wt.int {n : Int} (h : n.natAbs < 1000000000) : Wt (.int n) 30 0 := by
  have hlog : n.natAbs.log2 < 30 := by
    by_cases e : n.natAbs = 0
    · rw [e]; decide
    · exact (Nat.log2_lt e).mpr (Nat.lt_trans h (by decide))
  refine ⟨?_, ?_, rfl, ?_, by simp [PyData.depth]⟩
  · simp only [PyData.showable, decide_eq_true_eq]; omega
  · simp only [PyData.leavesShort, decide_eq_true_eq]
    have e := int_text_length_le10 (a := n) (k := 9) (by decide) h
    simp only [PyData.shown]
    rw [PySem.ofString_length]
    omega
  · simp only [PyData.weight]; split <;> omega
theorem Wt.nat {n : Nat} (h : n < 1000000000) : Wt (.int (n : Int)) 30 0 := Wt.int (by omega)
theorem Wt.text {l : List Nat} {n : Nat} (h : ∀ c ∈ l, c < 1114112) (hn : l.length ≤ n) : Wt (.str (tS l)) n 0 := by
  refine ⟨rfl, ?_, ?_, by simpa [PyData.weight, tS] using hn, by simp [PyData.depth]⟩
  · simp only [PyData.leavesShort, List.all_eq_true, decide_eq_true_eq]
    intro c hc
    have := h c (by simpa [tS] using hc)
    have e : 16 ^ 8 = 4294967296 := by decide
    omega
  · show PyData.strOk (tS l) = true
    unfold PyData.strOk
    rw [Array.all_eq_true_iff_forall_mem]
    intro c hc
    exact decide_eq_true (h c (by simpa [tS] using hc))
theorem Wt.nats {l : List Nat} {n : Nat} (h : ∀ c ∈ l, c < 1000000000) (hn : l.length ≤ n) : Wt (.list (dN l)) (31 * n) 1 := by
  refine Wt.list (w := 30) (k := 0) (fun d hd => ?_) (by unfold dN; rw [List.length_map]; exact hn)
  obtain ⟨c, hc, rfl⟩ := List.mem_map.mp hd
  exact Wt.nat (h c hc)
theorem Wt.natsT {l : List Nat} {n : Nat} (h : ∀ c ∈ l, c < 1000000000) (hn : l.length ≤ n) : Wt (.tuple (dN l)) (31 * n) 1 := by
  refine Wt.tuple (w := 30) (k := 0) (fun d hd => ?_) (by unfold dN; rw [List.length_map]; exact hn)
  obtain ⟨c, hc, rfl⟩ := List.mem_map.mp hd
  exact Wt.nat (h c hc)
theorem Wt.bools {l : List Bool} {n : Nat} (hn : l.length ≤ n) : Wt (.list (dB l)) n 1 := by
  have := Wt.list (w := 0) (k := 0) (n := n) (ds := dB l) (fun d hd => ?_) (by unfold dB; rw [List.length_map]; exact hn)
  · exact this.mono (by omega) (Nat.le_refl _)
  · obtain ⟨c, hc, rfl⟩ := List.mem_map.mp hd
    exact Wt.bool c
theorem Wt.boolsT {l : List Bool} {n : Nat} (hn : l.length ≤ n) : Wt (.tuple (dB l)) n 1 := by
  have := Wt.tuple (w := 0) (k := 0) (n := n) (ds := dB l) (fun d hd => ?_) (by unfold dB; rw [List.length_map]; exact hn)
  · exact this.mono (by omega) (Nat.le_refl _)
  · obtain ⟨c, hc, rfl⟩ := List.mem_map.mp hd
    exact Wt.bool c
theorem eqv_map {α : Type} [DecidableEq α] (f : α → PyData) (hf : ∀ a b, PyData.eqv (f a) (f b) = decide (a = b)) : ∀ l m : List α, PyData.eqvAll (l.map f) (m.map f) = decide (l = m)
  | [], [] => by simp [PyData.eqvAll]
  | [], b :: m => by simp [PyData.eqvAll]
  | a :: l, [] => by simp [PyData.eqvAll]
  | a :: l, b :: m => by
    show (PyData.eqv (f a) (f b) && PyData.eqvAll (l.map f) (m.map f)) = _
    rw [hf, eqv_map f hf l m]
    by_cases h1 : a = b
    · by_cases h2 : l = m
      · subst h1 h2; simp
      · simp [h2]
    · simp [h1]
theorem eqv_dN (l m : List Nat) : PyData.eqvAll (dN l) (dN m) = decide (l = m) := eqv_map _ (fun a b => by
  show ((a : Int) == (b : Int)) = _
  by_cases h : a = b
  · subst h; simp
  · rw [decide_eq_false h]; exact beq_eq_false_iff_ne.mpr (by omega)) l m
theorem eqv_dB (l m : List Bool) : PyData.eqvAll (dB l) (dB m) = decide (l = m) := eqv_map _ (fun a b => by
  show (a == b) = _
  by_cases h : a = b
  · subst h; simp
  · rw [decide_eq_false h]; exact beq_eq_false_iff_ne.mpr h) l m
end L3
namespace L3
open PySem PySem.Spec PyProof.Rows L2
end L3
namespace L3
open PySem PySem.Spec PyProof.Rows L2
/-- without what stands at D -/
def del (H : Hp) (D : Addr) : Hp := fun b => if b = D then none else H b
theorem del_upd (H : Hp) (D : Addr) (o : HO) : del (upd H D o) D = del H D := by
  funext b; unfold del upd
  by_cases h : b = D
  · rw [if_pos h, if_pos h]
  · rw [if_neg h, if_neg h, if_neg h]
theorem del_none {H : Hp} {D : Addr} (h : H D = none) : del H D = H := by
  funext b; unfold del
  by_cases e : b = D
  · rw [if_pos e, e, h]
  · rw [if_neg e]
theorem del_ne {H : Hp} {D b : Addr} (h : b ≠ D) : del H D b = H b := by unfold del; rw [if_neg h]
theorem del_same (H : Hp) (D : Addr) : Same (del H D) H := fun b o e => by
  unfold del at e
  by_cases h : b = D
  · rw [if_pos h] at e; cases e
  · rw [if_neg h] at e; exact e
theorem same_del {H H' : Hp} {D : Addr} (s : Same H H') (h : H D = none) : Same H (del H' D) := fun b o e => by
  rw [del_ne (ne_of_none e h)]; exact s b o e
theorem del_mono {H H' : Hp} (D : Addr) (s : Same H H') : Same (del H D) (del H' D) := fun b o e => by
  unfold del at e ⊢
  by_cases h : b = D
  · rw [if_pos h] at e; cases e
  · rw [if_neg h] at e ⊢; exact s b o e
/-- data does not look at instances -/
theorem sqL_del {K : PySem.W.Frag} {H : Hp} {x C dx a : Addr} {fs : List (Str × V)} {xs : List V} (hx : H x = some (.ins C dx fs)) (h : SqL K H a xs) : SqL K (del H x) a xs := by
  rcases h with (h | ⟨o, h⟩) | h
  · exact .inl (.inl (by rw [del_ne (ne_of h hx (by intro z; cases z))]; exact h))
  · exact .inl (.inr ⟨o, by rw [del_ne (ne_of h hx (by intro z; cases z))]; exact h⟩)
  · exact .inr h
theorem sqT_del {K : PySem.W.Frag} {H : Hp} {x C dx a : Addr} {fs : List (Str × V)} {xs : List V} (hx : H x = some (.ins C dx fs)) (h : SqT K H a xs) : SqT K (del H x) a xs := by
  rcases h with (h | ⟨o, h⟩) | h
  · exact .inl (.inl (by rw [del_ne (ne_of h hx (by intro z; cases z))]; exact h))
  · exact .inl (.inr ⟨o, by rw [del_ne (ne_of h hx (by intro z; cases z))]; exact h⟩)
  · exact .inr h
theorem sq_del {K : PySem.W.Frag} {H : Hp} {x C dx : Addr} {v : V} {fs : List (Str × V)} {xs : List V} (hx : H x = some (.ins C dx fs)) (h : Sq K H v xs) : Sq K (del H x) v xs := by
  obtain ⟨a, e, h⟩ := h
  exact ⟨a, e, h.elim (fun h => .inl (sqL_del hx h)) fun h => .inr (sqT_del hx h)⟩
mutual
theorem dp_del {K : PySem.W.Frag} {H : Hp} {x C dx : Addr} {fs : List (Str × V)} (hx : H x = some (.ins C dx fs)) : ∀ {v : V} {d : PyData}, Dp K H v d → Dp K (del H x) v d
  | _, _, .non => .non
  | _, _, .bl b => .bl b
  | _, _, .int i => .int i
  | _, _, .str x => .str x
  | _, _, .lst h a => .lst (sqL_del hx h) (dpAll_del hx a)
  | _, _, .tup h a => .tup (sqT_del hx h) (dpAll_del hx a)
theorem dpAll_del {K : PySem.W.Frag} {H : Hp} {x C dx : Addr} {fs : List (Str × V)} (hx : H x = some (.ins C dx fs)) : ∀ {vs : List V} {ds : List PyData}, DpAll K H vs ds → DpAll K (del H x) vs ds
  | _, _, .nil => .nil
  | _, _, .cons a b => .cons (dp_del hx a) (dpAll_del hx b)
end
theorem del_at (H : Hp) (D : Addr) : del H D D = none := by unfold del; rw [if_pos rfl]
/-- a comprehension: Pv of the list so far and the heap without it -/
theorem lc_dp {J : It} {n : Nat} {G : Hp → Prop} {Y : Nat → Hp → V → Hp → Prop} (w : Walk J n G Y) {g : TG} {tt : TT} {te : TE} {vs : List Nat} {σ : L2.St} {H1 : Hp} {D : Addr} {Qd : Hp → Prop} (Pv : Nat → List V → Hp → Prop) (hz : n ≤ sizeLine) (hA : ∀ i acc H, Pv i acc H → acc.length ≤ i)
    (nD : H1 D = none) (h0 : Pv 0 [] H1) (hG : ∀ i acc H, Pv i acc (del H D) → H D = some (.lst acc) → G H)
    (hs : ∀ i x H H' acc (C : VK) (N : Hp → Prop), i < n → Pv i acc (del H D) → H D = some (.lst acc) → Y i H x H' → (∀ v H4, H4 D = some (.lst acc) → Pv (i + 1) (acc ++ [v]) (del H4 D) → C v H4) → (∀ H3, H3 D = some (.lst acc) → Pv (i + 1) acc (del H3 D) → N H3) →
      g x (wipe σ vs) H' fun σ2 H2 => wipe σ2 vs = wipe σ vs ∧ tt σ2 H2 fun b H3 => if b = true then te σ2 H3 C else N H3)
    (hd : ∀ H xs, H D = some (.lst xs) → Pv n xs (del H D) → Qd H) :
    ∃ W : Nat → Nat → Hp → Prop, (∃ m, W 0 m (upd H1 D (.lst []))) ∧ ∀ i m H, W i m H →
      (J.stop i H ∧ Qd H) ∨ (J.go i H ∧ ∃ Nx : Hp → Prop, (∀ H', Nx H' → ∃ m', m' < m ∧ W (i + 1) m' H') ∧ ∀ x H', J.yld i H x H' → g x (wipe σ vs) H' fun σ2 H2 => wipe σ2 vs = wipe σ vs ∧ tt σ2 H2 fun b H3 =>
        if b = true then te σ2 H3 fun y H4 => ∃ acc, H4 D = some (.lst acc) ∧ acc.length < sizeLine ∧ Nx (upd H4 D (.lst (acc ++ [y]))) else Nx H3) := by
  refine lc_it w (fun i H => ∃ acc, H D = some (.lst acc) ∧ Pv i acc (del H D)) ⟨[], upd_same, by rw [del_upd, del_none nD]; exact h0⟩ (fun i H _ p => by obtain ⟨acc, h1, h2⟩ := p; exact hG i acc H h2 h1) (fun i x H H' hi p y => ?_) fun H p => ?_
  · obtain ⟨acc, hD, ha⟩ := p
    refine hs i x H H' acc _ _ hi ha hD y (fun v H4 d4 a4 => ⟨acc, d4, ?_, _, upd_same, by rw [del_upd]; exact a4⟩) (fun H3 d3 a3 => ⟨acc, d3, a3⟩)
    have := hA i acc _ ha
    omega
  · obtain ⟨acc, hD, ha⟩ := p
    exact hd H acc hD ha
/-- .. of data, one item a turn, where all else stays -/
theorem lc_data {K : PySem.W.Frag} {J : It} {n : Nat} {G : Hp → Prop} {Y : Nat → Hp → V → Hp → Prop} (w : Walk J n G Y) {g : TG} {te : TE} {vs : List Nat} {σ : L2.St} {H1 : Hp} {D : Addr} {Qd : Hp → Prop} (ds : List PyData) (hn : ds.length = n) (hz : n ≤ sizeLine)
    (nD : H1 D = none) (hG : ∀ H, Same H1 H → G H)
    (hs : ∀ i x H H' acc d (C : VK), i < n → Same H1 H → H D = some (.lst acc) → Y i H x H' → ds[i]? = some d → (∀ v H4, Same H H4 → Dp K (del H4 D) v d → C v H4) → g x (wipe σ vs) H' fun σ2 H2 => wipe σ2 vs = wipe σ vs ∧ te σ2 H2 C)
    (hgm : ∀ x σ H (Q Q' : L2.St → Hp → Prop), (∀ σ2 H2, Q σ2 H2 → Q' σ2 H2) → g x σ H Q → g x σ H Q')
    (hd : ∀ H xs, Same H1 H → H D = some (.lst xs) → DpAll K (del H D) xs ds → Qd H) :
    ∃ W : Nat → Nat → Hp → Prop, (∃ m, W 0 m (upd H1 D (.lst []))) ∧ ∀ i m H, W i m H →
      (J.stop i H ∧ Qd H) ∨ (J.go i H ∧ ∃ Nx : Hp → Prop, (∀ H', Nx H' → ∃ m', m' < m ∧ W (i + 1) m' H') ∧ ∀ x H', J.yld i H x H' → g x (wipe σ vs) H' fun σ2 H2 => wipe σ2 vs = wipe σ vs ∧ tYes σ2 H2 fun b H3 =>
        if b = true then te σ2 H3 fun y H4 => ∃ acc, H4 D = some (.lst acc) ∧ acc.length < sizeLine ∧ Nx (upd H4 D (.lst (acc ++ [y]))) else Nx H3) := by
  refine lc_dp w (fun i acc H => Same H1 H ∧ DpAll K H acc (ds.take i)) hz (fun i acc H p => ?_) nD ⟨Same.refl _, .nil⟩ (fun i acc H p _ => hG H (p.1.trans (del_same _ _))) (fun i x H H' acc C N hi p hD y c nn => ?_) (fun H xs hD p => ?_)
  · rw [dpAll_len p.2, List.length_take]; omega
  · have hlt : i < ds.length := by omega
    refine hgm _ _ _ _ _ (fun σ2 H2 h => ⟨h.1, yes_te h.2⟩) (hs i x H H' acc ds[i] C hi (p.1.trans (del_same _ _)) hD y (List.getElem?_eq_getElem hlt) fun v H4 s4 d4 => ?_)
    have s5 := del_mono D s4
    refine c v H4 (s4 _ _ hD) ⟨p.1.trans s5, ?_⟩
    rw [List.take_add_one, List.getElem?_eq_getElem hlt]
    exact dpAll_app (DpAll.same s5 p.2) (.cons d4 .nil)
  · have e : ds.take n = ds := by rw [← hn]; exact List.take_length
    rw [e] at p
    exact hd H xs (p.1.trans (del_same _ _)) hD p.2
theorem gName_mono {i : Nat} : ∀ x σ H (Q Q' : L2.St → Hp → Prop), (∀ σ2 H2, Q σ2 H2 → Q' σ2 H2) → gName i x σ H Q → gName i x σ H Q' := fun _ _ _ _ _ h q => h _ _ q
end L3
namespace L3
open PySem PySem.Spec PyProof.Rows L2
section
variable {X : Cx} {K : PySem.W.Frag}
theorem ix_listK (h : X.K = K) : IxR X (rIxL K) := h ▸ ix_list
theorem call_list_ofK (h : X.K = K) : CallR X (.type "list") (fun xs H Q => ∃ p ys, xs = [.ref p] ∧ (SqL K H p ys ∨ SqT K H p ys) ∧ ∀ l, H l = none → Q (.ref l) (upd H l (.lst ys))) := h ▸ call_list_of
theorem call_tuple_ofK (h : X.K = K) : CallR X (.type "tuple") (fun xs H Q => ∃ p ys, xs = [.ref p] ∧ ((SqL K H p ys ∧ ∀ l, H l = none → Q (.ref l) (upd H l (.tup ys))) ∨ (SqT K H p ys ∧ Q (.ref p) H))) := h ▸ call_tuple_of
theorem op_notInNK (h : X.K = K) : OpR X (compareOp .NotIn) (fun x y H Q => ∃ (l : List Nat) (n : Nat), x = .int (n : Int) ∧ Sq K H y (nV l) ∧ Q (.bl (!decide (n ∈ l))) H) := h ▸ op_notInN
theorem mt_indexNK (h : X.K = K) : MtR X "list.index" (fun x xs H Q => ∃ (a : Addr) (l : List Nat) (n : Nat), x = .ref a ∧ xs = [.int (n : Int)] ∧ SqL K H a (nV l) ∧ n ∈ l ∧ Q (.int ((l.idxOf n : Nat) : Int)) H) := h ▸ mt_indexN
theorem pi_listK {tg l : Expr} {tl : TE} (h : X.K = K) (hl : PE X l tl) : PI X tg l (iList K tl) := h ▸ pi_list hl
theorem pg_tupK {es : List Expr} {k : Nat} {pos : Pos} {t : TGs} {n : Nat} (h : X.K = K) (hc : X.calm = true) (hp : PGs X es t)
    (hn : (assignEach es X.env).length = n) (hst : (assignEach es X.env).findIdx? (·.1) = none := by rfl) : PG X (.Tuple es k pos) (gTup K n t) := h ▸ pg_tup hc hp hn hst
theorem sl_listK (h : X.K = K) : SlR X (rSlL K) := h ▸ sl_list
theorem pe_bmk {T id : String} {name : Str} {o e : Expr} {es : List Expr} {apos cpos : Pos} {r : V → List V → Hp → VK → Prop} {to : TE} {t : TA} (h : X.K = K) (pa : PlainAttrs T) (slot : Slot T name id) (hty : typeOf (.builtin id) = pure (.type "method_descriptor")) (hm : MtR X id r) (ho : PE X o to) (ha : PA X (e :: es) t)
    (hbase : attributeBase o name X.env (eval o X.env) = eval o X.env := by rfl)
    (hfew : ((backTo cpos (starEach (e :: es) X.env)).all (fun x => !x.1) && (backToKw cpos (keywordEach [] X.env)).all (fun x => x.1.isSome)
      && decide ((e :: es).length + ([] : List Keyword).length + (if ([] : List Keyword).isEmpty then 0 else 1) < 30)) = true := by rfl)
    (hline : (apos.endLine == cpos.line) = true := by rfl) (hs : starEach (e :: es) X.env = (false, eval e X.env) :: starEach es X.env := by rfl) (hplain : (backTo cpos (starEach es X.env)).any (·.1) = false := by rfl) :
    PE X (.Call (.Attribute o name apos) (e :: es) [] cpos) (tBM K T r to t) := h ▸ pe_bm pa slot hty hm ho ha hbase hfew hline hs hplain
variable {C f : Addr} {fd : FuncData} {k : Nat} {sp : Sp} {y : Str}
end
end L3
namespace L3
open PySem PySem.Spec PyProof.Rows L2
section
variable {X : Cx} {C f : Addr} {fd : FuncData} {k : Nat} {sp : Sp} {y : Str}
/-- ~o -/
theorem un_inv (F : FnOk X.prog X.w X.K X.mg X.base CX0 k f fd ["self"] sp) (hr : Room k X.A) (hb : L2.Binds X.K fd ["self"] []) (m : Meth X.K C "__invert__" f) :
    UnR X (unaryOp .Invert) (fun x H Q => ∃ a dx fs, x = .ref a ∧ H a = some (.ins C dx fs) ∧ sp [.ref a] H Q E0) := by
  intro pins s σ H x v Q I rx h
  obtain ⟨a, dx, fs, rfl, ha, h⟩ := h
  cases rx
  obtain ⟨mA, O, _⟩ := ins_get I.hok ha
  obtain ⟨od, J, _⟩ := O.look
  obtain ⟨mm, FF⟩ := I.fr
  refine PySem.W.ksp_inv FF I.ok.mod.kin J m.at_ m.fn ?_
  exact run_fn (vs := [.ref a]) (us := [.ref a]) F hr hb .nil pass0 I (.cons rfl .nil) (by simpa using h)
end
end L3
namespace L3
open PySem PySem.Spec PyProof.Rows L2
/-- an error object: its class, the tuple of its args, its dict -/
abbrev erO (C t : Addr) (d : Option Addr) : Obj := { cls := .ref C, dict := d, data := .fields #[.ref t, .none, .none, .none, .bool false, .none] }
section
open Builtin Builtin.ObjectAttr
variable {prog : Program} {w : World} {A : Around} {R : Result → Shared → Prop} {hp : Heap} {g : Array GenState} {d : Drawn} {t : Nat} {os : OsState} {K : PySem.W.Frag} {name : Str} {tk : Tok} {v : Value} {x C : Addr} {fv : Array Value} {cd : ClassData}
/-- what the class's line lets: no class in it takes the store for itself -/
structure Lets0 (cd : ClassData) : Prop where
  pass : ∀ self : Value, refuseLoop self "__setattr__" cd.mro = pure ()
  obj : cd.mro.contains (.type "object") = true
  ne : cd.mro.isEmpty = false
  dct : cd.hasDict = true
/-- the first field -/
theorem er_new (X : K.In hp) (hx : hp.get? x = some { cls := .ref C, data := .fields fv }) (hcd : PySem.W.clsIn K C = some cd) (L : Lets0 cd) (ha : PySem.W.findIn K (.ref C) name = some none)
    (hq : ∀ h' tk' dx, (∀ b o, b ≠ x → hp.get? b = some o → h'.get? b = some o) → hp.objs.size ≤ dx → dx ≠ x → h'.get? x = some { cls := .ref C, dict := some dx, data := .fields fv } →
      h'.Ns1 dx (fun y => if y = name then some v else none) → R (.ok (.ret .none)) ⟨h', g, d, tk', os⟩) :
    codeAny (model prog w) A (.call (.builtin "object.__setattr__") ⟨[.ref x, .str name tk, v], []⟩) R ⟨hp, g, d, t, os⟩ := by
  have In0 : PySem.W.InstAt hp x { cls := .ref C, data := .fields fv } C none := ⟨hx, rfl, rfl, trivial⟩
  have StF := F.store_object
  have nxs : x ≠ hp.objs.size := Nat.ne_of_lt (Heap.lt_size hx)
  have isO : PySem.W.Looks (model prog w) hp (isInstance (.ref x) (.type "object")) true := In0.type.andThen (PySem.W.looks_mroIn X (by unfold PySem.W.mroIn; rw [hcd, Option.bind_some, if_neg (by rw [L.ne]; decide), L.obj]))
  refine codeAny_call_builtin StF.slot.plain StF.entry (@PySem.W.check_slot (model prog w) _ _ ⟨hp, g, d, t, os⟩ "object.__setattr__" "object" "__setattr__" (.ref x) [.str name tk, v] [] _ StF.kind StF.split isO (StF.args (.ref x) (.str name tk) v) ?_)
  have lmro : PySem.W.Looks (model prog w) hp (mroOf (.ref C)) cd.mro := (PySem.W.looks_clsIn X hcd).andThen .now
  have lst : PySem.W.Looks (model prog w) hp (storeTaker? none) none := .now
  have lcls : PySem.W.Looks (model prog w) hp (classData C) cd := PySem.W.looks_clsIn X hcd
  rw [PySem.W.osa_eq, refuse_eq]
  refine wpAny_bind (wpAny_bind (In0.type.at (wpAny_bind (lmro.at ?_))))
  rw [L.pass]
  refine wpAny_pure (wpAny_bind (In0.type.at (wpAny_bind ((PySem.W.looks_findIn X ha).at (wpAny_bind (lst.at ?_))))))
  show wpAny _ _ (storeInOwnDict (.ref x) (.ref C) (.str name tk) name v false) _ _ _
  have hdc := L.dct
  clear L
  obtain ⟨nm, bs, mro, ns, qn, hd, sn, sb, ab, col, del⟩ := cd
  dsimp only at hdc
  subst hdc
  unfold storeInOwnDict ownDictForStores
  repeat (first | with_reducible refine PySem.HandSPX.store_in_new ?_ ?_ | with_reducible refine wpAny_loadPart_at hx ?_ | with_reducible refine lcls.at ?_ | wp_step)
  · exact ⟨_, #[], _, (Heap.get?_update_ne _ _ _ _ nxs.symm).trans (Heap.get?_push_at rfl rfl), rfl, fun e he => absurd he (by simp), fun _ => rfl⟩
  · intro h' tk' hn' hs
    have hx1 : (hp.push { cls := .type "dict", data := .dict #[] }).get? x = some { cls := .ref C, data := .fields fv } := Heap.get?_push_of_some _ hx
    refine hq h' tk' hp.objs.size (fun b o hb ho => ?_) (Nat.le_refl _) nxs.symm ?_ hn'
    · exact (hs.2 b (Nat.ne_of_lt (Heap.lt_size ho))).trans ((Heap.get?_update_ne _ _ _ _ hb).trans (Heap.get?_push_of_some _ ho))
    · exact (hs.2 x nxs).trans (Heap.get?_update_self _ hx1 rfl)
end
end L3
namespace L3
open PySem PySem.Spec PyProof.Rows L2 Builtin Builtin.ObjectAttr
/-- what the written part says of an error class: its own __init__ says super().__init__('..') -/
structure ErrF (P : Program) (K : PySem.W.Frag) (mg : Str → Option Value) (C fI : Addr) (B newId initId : String) (bmB : List Value) (ps : List Str) (params : Arguments) (body : List Stmt) (scope : Scope) : Prop where
  bf : ExcBaseFacts B newId initId bmB
  obj : bmB.contains (.type "object") = true
  sf : PySem.W.KxsFacts B initId
  cls : ∃ nm q N bs bm sn sub ab col dd k0 k1 k2 k3 k5, K.lookup C = some (excClassObj nm q C N bs bm true sn sub ab col dd k0 k1 k2 k3 k5 newId) ∧ (∀ X : String, bm.contains (.type X) = bmB.contains (.type X)) ∧
    ∀ self : Value, refuseLoop self "__setattr__" (.ref C :: bm) = pure ()
  fn : ∃ qual dV kV doc pm an cda ct cc oc od osl vs file tf ccl cdd ccs cl cld csl, K.lookup fI = some ⟨oc, od, .func (PySem.W.ksFn "__init__" qual params body scope dV kV doc pm an (.ref cda) ct cc), osl⟩ ∧ PySem.W.codeIn K (.ref cda) qual = true ∧
    K.lookup cda = some ⟨ccl, cdd, .fields vs, ccs⟩ ∧ vs[2]? = some (.str file tf) ∧ ((P.main.file : Str) == file) = true ∧ K.lookup cc = some ⟨cl, cld, .cell (some (.ref C)), csl⟩ ∧
    ∀ s us, us.length = ps.length → BindsTo s (PySem.W.ksFn "__init__" qual params body scope dV kV doc pm an (.ref cda) ct cc) ⟨us, []⟩ (ps.zip us)
  sup : PySem.W.ks_superIn K C C "__init__" = some (some (.builtin initId))
  self : PySem.W.mroIn K C (.ref C) = some true
  subB : PySem.W.subIn K (.ref C) (.type B) = some true
  opq : PySem.W.nsIn K cStatics "thirdparty.any" = some none
  glb : mg "super" = none
  top : (P.main.scope.names.lookup ("super" : Str)).isSome = false
  sa : PySem.W.findIn K (.ref C) "__setattr__" = some (some (.builtin "object.__setattr__"))
  ini : PySem.W.findIn K (.ref C) "__init__" = some (some (.ref fI))
  tI : PySem.W.typeIn K (.ref fI) = some (.type "function")
  kC : PySem.W.keepIn K (.ref C) = true
  exC : PySem.W.subIn K (.ref C) (.type "BaseException") = some true
  tyC : PySem.W.typeIn K (.ref C) = some (.type "type")
/-- the scope of such an __init__ -/
structure ErrS (ps : List Str) (params : Arguments) (scope : Scope) : Prop where
  sup : scope.names.lookup ("super" : Str) = some .globalImplicit
  cls : scope.names.lookup ("__class__" : Str) = some .free
  loc : ∀ x ∈ ps, scope.names.lookup x = some .local
  fst : ∃ ar : Arg, (params.posonlyargs ++ params.args).head? = some ar ∧ ar.arg = "self"
  hd : ps.head? = some "self"
  nd : ps.Nodup
  knd : scope.kind = .function
  cell : ∀ x ∈ scope.names, x.2 ≠ .cell
  co : scope.isCoroutine = false
  gn : scope.isGenerator = false
/-- the first row: super().__init__('..') -/
abbrev supE (txt : Str) (kk : Nat) (p0 p1 p2 p3 p4 : Pos) : Expr := .Call (.Attribute (.Call (.Name "super" p0) [] [] p1) "__init__" p2) [.Constant (.str txt) kk p3] [] p4
/-- it is read as a call of a method -/
def SupOk (scope : Scope) (txt : Str) (kk : Nat) (p0 p1 p2 p3 p4 : Pos) : Prop := ∀ (qual : Str) (L f : Addr) (cd : Value) (cc : Addr), ∃ pl : Sem Bool, eval (supE txt kk p0 p1 p2 p3 p4) (PySem.W.ksEnv qual scope L f cd cc) = (do
      let ov ← attributeBase (.Call (.Name "super" p0) [] [] p1) "__init__" (PySem.W.ksEnv qual scope L f cd cc) (eval (.Call (.Name "super" p0) [] [] p1) (PySem.W.ksEnv qual scope L f cd cc))
      standAt p2.atName
      let (f', first) ← holding [ov] (getMethod ov "__init__" pl)
      callWith p4 f' first (backTo p4 (starEach [.Constant (.str txt) kk p3] (PySem.W.ksEnv qual scope L f cd cc))) [])
/-- what stands around a run -/
structure ErrW (K : PySem.W.Frag) (mg : Str → Option Value) (h : Heap) : Prop where
  kin : K.In h
  glob : h.Ns mainGlobals mg
  blt : ∃ mb, h.Ns builtinsNs mb ∧ mb "super" = some (.type "super")
section
variable {P : Program} {w : World} {A : Around} {E : Value → Shared → Prop} {K : PySem.W.Frag} {mg : Str → Option Value} {C fI : Addr} {B newId initId : String} {bmB : List Value} {ps : List Str} {params : Arguments} {body : List Stmt} {scope : Scope}
theorem ErrW.keeps {h h' : Heap} (W : ErrW K mg h) (k : ∀ b o, h.get? b = some o → h'.get? b = some o) : ErrW K mg h' := by
  obtain ⟨mb, h1, h2⟩ := W.blt
  exact ⟨W.kin.keeps k, W.glob.keeps k, mb, h1.keeps k, h2⟩
theorem ErrW.but {h h' : Heap} {e : Addr} (W : ErrW K mg h) (he : K.lookup e = none) (h1 : e ≠ mainGlobals) (h2 : e ≠ builtinsNs) (k : ∀ b o, b ≠ e → h.get? b = some o → h'.get? b = some o) : ErrW K mg h' := by
  obtain ⟨mb, z1, z2⟩ := W.blt
  refine ⟨fun b o q => k b o (fun z => by rw [z, he] at q; cases q) (W.kin b o q), W.glob.at fun o q => k _ o h1.symm q, mb, z1.at fun o q => k _ o h2.symm q, z2⟩
/-- super().__init__('..') -/
theorem sup_stmt {qual : Str} {dV kV doc pm ct oc ccl cl : Value} {an od cdd cld : Option Addr} {cda cc L e t0 : Addr} {osl ccs csl : Array (Option Value)} {vs : Array Value} {file : Str} {tf : Tok} {m : Str → Option Value} {s : Shared} {body0 : List Stmt} {p0 p1 p2 p3 p4 p5 : Pos} {kk : Nat} {txt : Str} {Q : Flow → Shared → Prop}
    (T : ErrF P K mg C fI B newId initId bmB ps params body scope) (S : ErrS ps params scope) (W : ErrW K mg s.heap) (hev : SupOk scope txt kk p0 p1 p2 p3 p4)
    (hf : K.lookup fI = some ⟨oc, od, .func (PySem.W.ksFn "__init__" qual params body scope dV kV doc pm an (.ref cda) ct cc), osl⟩) (hc : K.lookup cda = some ⟨ccl, cdd, .fields vs, ccs⟩) (hv : vs[2]? = some (.str file tf)) (hfl : ((P.main.file : Str) == file) = true)
    (hcc : K.lookup cc = some ⟨cl, cld, .cell (some (.ref C)), csl⟩) (hn : s.heap.Ns L m) (hs : m "self" = some (.ref e)) (he : s.heap.get? e = some (erO C t0 none))
    (h : ∀ h' tk t', (∀ b o, b ≠ e → s.heap.get? b = some o → h'.get? b = some o) → h'.get? e = some (erO C t' none) → Q .next { s with heap := h', toks := tk }) :
    PySem.wpAt (model P w) A (.func body0 (PySem.W.ksEnv qual scope L fI (.ref cda) cc)) (exec (.Expr (supE txt kk p0 p1 p2 p3 p4) p5) (PySem.W.ksEnv qual scope L fI (.ref cda) cc)) Q E s := by
  obtain ⟨ar, ha1, ha2⟩ := S.fst
  obtain ⟨mb, hb1, hb2⟩ := W.blt
  obtain ⟨nm, q, N, bs, bm, sn, sub, ab, col, dd, k0, k1, k2, k3, k5, hC, hT, _⟩ := T.cls
  have X := W.kin
  obtain ⟨hh, g, d, t, os⟩ := s
  have hcl : PySem.W.clsIn K C = some { name := nm, bases := bs, mro := .ref C :: bm, ns := N, qualname := q, hasDict := true, slotNames := sn, subclasses := sub, abstract := ab, collection := col, hasDel := false } := by unfold PySem.W.clsIn; rw [hC] <;> rfl
  have hself : scope.names.lookup ar.arg = some .local := by
    rw [ha2]
    exact S.loc "self" (List.mem_of_head? S.hd)
  have hCh := X _ _ hC
  obtain ⟨pl, hev'⟩ := hev qual L fI (.ref cda) cc
  have hint : interactive (PySem.W.ksEnv qual scope L fI (.ref cda) cc) = false := by
    show (scope.kind == .module && _) = false
    rw [S.knd]; rfl
  refine ks_wpAt_Expr_any (ks_wpAt_MethodCall (ks_wpAt_super_base (env := PySem.W.ksEnv qual scope L fI (.ref cda) cc) S.sup S.cls rfl rfl (X _ _ hf) rfl ha1 rfl (X _ _ hc) rfl hv hfl T.top ?_) hev') hint
  refine PySem.W.ks_loadName_global S.knd S.sup (Calls.loadGlobal_builtin (env := PySem.W.ksEnv qual scope L fI (.ref cda) cc) W.glob T.glb hb1 hb2 ⟨rfl, ?_⟩)
  refine wpAny_loadName_free S.knd S.cls rfl ⟨_, X _ _ hcc, rfl⟩ ?_
  refine wpAny_loadName_local S.knd hself hn (by rw [ha2]; exact hs) ?_
  refine ks_wpAny_isType_cls hCh rfl ⟨rfl, ?_⟩
  refine ks_wpAny_call_super hCh rfl he rfl (fun c z => by cases z) (PySem.W.looks_mroIn X T.self) (fun h1 e1 k1' => ?_)
  have X1 : K.In h1 := X.keeps k1'
  have he1 := k1' _ _ he
  have I1 : PySem.W.InstAt h1 e (erO C t0 none) C none := ⟨he1, rfl, rfl, trivial⟩
  have hsup := T.sup
  unfold PySem.W.ks_superIn at hsup
  rw [hcl] at hsup
  refine PySem.W.kxs_getMethod T.sf e1 (PySem.W.looks_opaque X1 T.opq) (l₀ := .ref C :: bm) (fun A Q E s k q => wpAny_bind ((PySem.W.looks_clsIn X1 hcl) A _ E s k (wpAny_pure q))) rfl X1 hsup (I1.type.andThen (PySem.W.looks_subIn X1 T.subB)) (PySem.W.ks_ne X1 I1 hcl) rfl ?_
  refine PySem.W.kxs_callWith (i := initId) (x := e) rfl ?_
  refine Calls.evalArgs_plain (Calls.spliced_cons (wpAny_Constant_str (k := kk) (pos := p3) (Calls.spliced_nil ?_)))
  have hw2 : (h1.push (PySem.W.kxs_mw initId e)).get? h1.objs.size = some (PySem.W.kxs_mw initId e) := Heap.get?_push_at rfl rfl
  have k2' : ∀ b o, h1.get? b = some o → (h1.push (PySem.W.kxs_mw initId e)).get? b = some o := fun b o z => Heap.get?_push_of_some _ z
  refine ⟨hw2, ?_⟩
  refine wpAny_call (codeAny_of_tree ?_)
  show wpAny _ A.in1 (callAny (.ref h1.objs.size) ⟨[.str txt _], []⟩) _ _ _
  simp only [callAny]
  refine wpAny_bind (wpAny_load hw2 ?_)
  simp only [PySem.W.kxs_mw, show (Value.type "method-wrapper" == Value.type "method" || Value.type "method-wrapper" == Value.type "builtin_function_or_method" || Value.type "method-wrapper" == Value.type "method-wrapper") = true by decide, if_true]
  refine PySem.W.KFB.if_so (by decide) ?_
  refine wpAny_bind (PySem.W.check_bound_init T.bf.toExcCallFacts (k2' _ _ (k1' _ _ hCh)) (k2' _ _ he1) rfl ?_)
  refine wpAny_bind (wpAny_pure (wpAny_pure ?_))
  refine ⟨plainId_quiet T.bf.init.plain _, codeAny_builtin T.bf.initEntry ?_⟩
  refine PySem.W.exc_init_tree (cls := .ref C) (t0 := t0) (dv := none) (c2 := .none) (c3 := .none) (b4 := .bool false) (k2' _ _ he1) (by rw [sizeLine_eq]; show 1 ≤ _; decide) (fun h3 k3' e3 _ => ?_)
  exact h h3 _ _ (fun b o hb z => k3' b o hb (k2' _ _ (k1' _ _ z))) e3
/-- self.f = x, the first one -/
theorem sto_new {qual : Str} {cda : Value} {cc L e t0 : Addr} {m : Str → Option Value} {s : Shared} {body0 : List Stmt} {p1 p2 p3 p4 : Pos} {f x : Str} {v : Value} {Q : Flow → Shared → Prop}
    (T : ErrF P K mg C fI B newId initId bmB ps params body scope) (S : ErrS ps params scope) (X : K.In s.heap) (hn : s.heap.Ns L m) (hs : m "self" = some (.ref e)) (hx : m x = some v) (hself : scope.names.lookup ("self" : Str) = some .local) (hxl : scope.names.lookup x = some .local) (hdb : (x == ("__debug__" : Str)) = false) (hfn : PySem.W.findIn K (.ref C) f = some none)
    (he : s.heap.get? e = some (erO C t0 none)) (hsw : swapsWith (.Name x p3) (some (.Attribute (.Name "self" p1) f p2)) p4.line (PySem.W.ksEnv qual scope L fI cda cc) = pure false)
    (h : ∀ h' tk dx, (∀ b o, b ≠ e → s.heap.get? b = some o → h'.get? b = some o) → s.heap.objs.size ≤ dx → dx ≠ e → h'.get? e = some (erO C t0 (some dx)) → h'.Ns1 dx (fun y => if y = f then some v else none) → Q .next { s with heap := h', toks := tk }) :
    PySem.wpAt (model P w) A (.func body0 (PySem.W.ksEnv qual scope L fI cda cc)) (exec (.Assign [.Attribute (.Name "self" p1) f p2] (.Name x p3) p4) (PySem.W.ksEnv qual scope L fI cda cc)) Q E s := by
  obtain ⟨nm, q, N, bs, bm, sn, sub, ab, col, dd, k0, k1, k2, k3, k5, hC, hT, hp⟩ := T.cls
  have hcl : PySem.W.clsIn K C = some { name := nm, bases := bs, mro := .ref C :: bm, ns := N, qualname := q, hasDict := true, slotNames := sn, subclasses := sub, abstract := ab, collection := col, hasDel := false } := by unfold PySem.W.clsIn; rw [hC] <;> rfl
  have hob : (Value.ref C :: bm).contains (.type "object") = true := by
    rw [List.contains_cons, hT, T.obj, Bool.or_true]
  refine ks_wpAt_Assign_Attr (wpAt_of_wpAny (wpAny_Name (wpAny_loadName_local S.knd hxl hn hx (wpAny_Name (wpAny_loadName_local S.knd hself hn hs ?_))) hdb)) hsw
  obtain ⟨hh, g, d, t, os⟩ := s
  refine PySem.W.set_plain X (ox := erO C t0 none) (od := none) ⟨he, rfl, rfl, trivial⟩ T.sa ?_
  exact er_new X he hcl ⟨hp, hob, rfl, rfl⟩ hfn fun h' tk' dx k dn dne hx' hn' => h h' tk' dx k dn dne hx' hn'
/-- the stores behind super().__init__('..') -/
structure Sto (scope : Scope) (x f : Str) (q1 q2 q3 q4 : Pos) : Prop where
  loc : scope.names.lookup x = some .local
  db : (x == ("__debug__" : Str)) = false
  sw : ∀ (qual : Str) (L f' : Addr) (cd : Value) (cc : Addr), swapsWith (.Name x q3) (some (.Attribute (.Name "self" q1) f q2)) q4.line (PySem.W.ksEnv qual scope L f' cd cc) = pure false
/-- what is known of e and of all else, behind -/
structure ErrEnd (C e : Addr) (m0 : Str → Option Value) (s s' : Shared) : Prop where
  keep : ∀ b o, b ≠ e → s.heap.get? b = some o → s'.heap.get? b = some o
  at_ : ∃ t dx, s'.heap.get? e = some (erO C t (some dx)) ∧ s'.heap.Ns1 dx m0 ∧ s.heap.objs.size ≤ dx ∧ dx ≠ e
  gens : s'.gens = s.gens
  os : s'.os = s.os
section
variable {R : Result → Shared → Prop} {s : Shared} {e t0 : Addr} {p0 p1 p2 p3 p4 p5 q1 q2 q3 q4 r1 r2 r3 r4 : Pos} {kk : Nat} {txt x f y f2 : Str} {v u : Value}
theorem err_init1 {body : List Stmt} (T : ErrF P K mg C fI B newId initId bmB ["self", x] params body scope) (S : ErrS ["self", x] params scope) (hev : SupOk scope txt kk p0 p1 p2 p3 p4) (D : Sto scope x f q1 q2 q3 q4) (hfn : PySem.W.findIn K (.ref C) f = some none)
    (hbody : body = [.Expr (supE txt kk p0 p1 p2 p3 p4) p5, .Assign [.Attribute (.Name "self" q1) f q2] (.Name x q3) q4]) (hroom : A.depth < recursionLimit) (W : ErrW K mg s.heap) (hlim : s.heap.NoLimit) (n0 : K.lookup e = none) (n1 : e ≠ mainGlobals) (n2 : e ≠ builtinsNs)
    (he : s.heap.get? e = some (erO C t0 none)) (h : ∀ s', ErrEnd C e (fun z => if z = f then some v else none) s s' → R (.ok (.ret .none)) s') : codeAny (model P w) A (.call (.ref fI) ⟨[.ref e, v], []⟩) R s := by
  subst hbody
  obtain ⟨qual, dV, kV, doc, pm, an, cda, ct, cc, oc, od, osl, vs, file, tf, ccl, cdd, ccs, cl, cld, csl, hf, hcd, hc, hv, hfl, hcc, hbd⟩ := T.fn
  have hb := hbd s [.ref e, v] rfl
  have hself := S.loc "self" (List.mem_of_head? S.hd)
  have hne : ("self" : Str) ≠ x := by
    have := S.nd
    rw [List.nodup_cons] at this
    exact fun z => this.1 (by rw [z]; exact List.mem_cons_self)
  refine ks_codeAny_call_defAt (fd := PySem.W.ksFn "__init__" qual params _ scope dV kV doc pm an (.ref cda) ct cc) (binds := [(("self" : Str), .ref e), (x, v)]) hroom (W.kin _ _ hf) rfl hlim (PySem.W.codeRec_of W.kin hcd) rfl hb S.cell (fun z hz => ?_) (fun h0 hns hk => ?_) S.co S.gn S.knd
  · rcases List.mem_cons.mp hz with rfl | hz
    · exact hself
    · rw [List.mem_singleton.mp hz]; exact D.loc
  have W0 := W.keeps hk
  have hL : s.heap.objs.size ≠ e := Nat.ne_of_gt (Heap.lt_size he)
  have m1 : ([(("self" : Str), Value.ref e), (x, v)].reverse.lookup ("self" : Str)) = some (.ref e) := by
    show List.lookup _ [(x, v), (("self" : Str), Value.ref e)] = _
    rw [List.lookup_cons, show (("self" : Str) == x) = false from beq_eq_false_iff_ne.mpr hne]
    simp
  have m2 : ([(("self" : Str), Value.ref e), (x, v)].reverse.lookup x) = some v := by
    show List.lookup _ [(x, v), (("self" : Str), Value.ref e)] = _
    rw [List.lookup_cons, beq_self_eq_true]
  refine ks_wpAt_execs_cons (sup_stmt (s := { s with heap := h0, toks := _ }) T S W0 hev hf hc hv hfl hcc hns m1 (hk _ _ he) fun h1 tk1 t1 k1 e1 => ?_)
  have W1 := W0.but n0 n1 n2 k1
  have hns1 := hns.at fun o z => k1 _ o hL z
  refine ks_wpAt_execs_cons (sto_new (s := { s with heap := h1, toks := tk1 }) T S W1.kin hns1 m1 m2 hself D.loc D.db hfn e1 (D.sw _ _ _ _ _) fun h2 tk2 dx k2 dn dne e2 hd => ?_)
  refine wpAt_of_wpAny (wpAny_execs_nil ?_)
  refine h _ ⟨fun b o hb z => k2 b o hb (k1 b o hb (hk b o z)), ⟨t1, dx, e2, hd, ?_, dne⟩, rfl, rfl⟩
  exact Nat.le_trans (Nat.le_of_lt hns1.lt) dn
end
end
end L3
namespace L3
open PySem PySem.Spec PyProof.Rows L2
section
variable {X : Cx} {pins : List (Addr × Obj)} {σ : L2.St} {H1 : Hp} {s1 s' : Shared} {a d : Addr} {fs : List (Str × V)} {mA : Str → Option Value}
/-- the error itself is let go, its dict is tracked -/
theorem err_inv (I1 : L2.Inv X pins σ H1 s1) (ha : s1.heap.objs.size ≤ a) (hd : s1.heap.objs.size ≤ d) (hda : d ≠ a) (k : ∀ b o, s1.heap.get? b = some o → s'.heap.get? b = some o) (hns : s'.heap.Ns1 d mA) (rel : ∀ f, RelO (fs.lookup f) (mA f)) :
    ∃ G, L2.Inv X pins σ (upd H1 d (.xd fs)) { s1 with heap := G, toks := s'.toks } ∧ (∀ b o, G.get? b = some o → s'.heap.get? b = some o) ∧ G.get? a = none ∧ (upd H1 d (.xd fs)) a = none := by
  obtain ⟨G, g1, g2⟩ := restrict s'.heap fun b => decide (b ≠ a)
  have gk : ∀ b, b ≠ a → G.get? b = s'.heap.get? b := fun b hb => g1 b (decide_eq_true hb)
  have ge : G.get? a = none := g2 a (by simp)
  have nha : ∀ {b : Addr} {o : Obj}, s1.heap.get? b = some o → b ≠ a := fun {b o} z => Nat.ne_of_lt (Nat.lt_of_lt_of_le (Heap.lt_size z) ha)
  have nhd : ∀ {b : Addr} {o : Obj}, s1.heap.get? b = some o → b ≠ d := fun {b o} z => Nat.ne_of_lt (Nat.lt_of_lt_of_le (Heap.lt_size z) hd)
  have nH : ∀ {b : Addr} {o : HO}, H1 b = some o → b ≠ d := fun {b o} z => Nat.ne_of_lt (Nat.lt_of_lt_of_le (I1.hok.lt z) hd)
  have nHa : ∀ {b : Addr} {o : HO}, H1 b = some o → b ≠ a := fun {b o} z => Nat.ne_of_lt (Nat.lt_of_lt_of_le (I1.hok.lt z) ha)
  have kG : ∀ b o, s1.heap.get? b = some o → G.get? b = some o := fun b o z => by rw [gk b (nha z)]; exact k b o z
  have U : L2.Un X.fs [] H1 (upd H1 d (.xd fs)) s1.heap G := {
    keep := fun b o z _ _ _ => kG b o z
    slot := fun b o z _ _ _ => ⟨o.slots, kG b o z⟩
    free := fun b o z n _ => by rw [upd_ne (nhd z)]; exact n
    there := fun b o z _ => ⟨o, kG b o z⟩
    tups := fun b xs z => by rw [upd_ne (nH z)]; exact z
    frzs := fun b o v z => by rw [upd_ne (nH z)]; exact z
    tbls := fun b ps z => ⟨#[], by rw [upd_ne (nH z), z]; simp⟩ }
  refine ⟨G, I1.un (t' := s'.toks) U fun b o z => ?_, fun b o z => ?_, ge, ?_⟩
  · by_cases hb : b = d
    · subst hb
      rw [upd_same] at z
      cases z
      exact ⟨mA, hns.at fun o y => (gk b hda).trans y, rel⟩
    · rw [upd_ne hb] at z
      exact (I1.hok b o z).stay (fun c v _ y => kG c v y) (fun c hc => by rw [upd_ne (nH hc)]; exact hc) (fun c xs hc => by rw [upd_ne (nH hc)]; exact hc)
  · by_cases hb : b = a
    · rw [hb, ge] at z; cases z
    · rw [← gk b hb]; exact z
  · rw [upd_ne hda.symm]
    exact I1.hok.fresh ha
end
/-- a row of an error class's text -/
structure ErrT (P : Program) (K : PySem.W.Frag) (mg : Str → Option Value) (C fI : Addr) (B newId initId : String) (bmB : List Value) (ps : List Str) (params : Arguments) (body : List Stmt) (scope : Scope) : Prop where
  f : ErrF P K mg C fI B newId initId bmB ps params body scope
  s : ErrS ps params scope
section
variable {X : Cx} {C fI : Addr} {B newId initId : String} {bmB : List Value} {params : Arguments} {body : List Stmt} {scope : Scope} {p0 p1 p2 p3 p4 p5 q1 q2 q3 q4 r1 r2 r3 r4 : Pos} {kk : Nat} {txt x y f f2 cn : Str} {pins : List (Addr × Obj)} {σ : L2.St} {H1 : Hp} {s1 : Shared}
theorem errW (I : L2.Inv X pins σ H1 s1) : ErrW X.K X.mg s1.heap := by
  obtain ⟨mb, h1, h2⟩ := I.mod.blt
  exact ⟨I.kIn, I.mod.glob.keeps I.bk, mb, h1.keeps I.bk, (h2 _ (by decide)).trans PyProof.Rows.Boot.«super»⟩
/-- C(x) is made -/
theorem err_make1 {u : Value} {R : Value → Shared → Prop} {E : Value → Shared → Prop} (T : ErrT X.prog X.K X.mg C fI B newId initId bmB ["self", x] params body scope) (hev : SupOk scope txt kk p0 p1 p2 p3 p4) (D : Sto scope x f q1 q2 q3 q4) (hfn : PySem.W.findIn X.K (.ref C) f = some none)
    (hbody : body = [.Expr (supE txt kk p0 p1 p2 p3 p4) p5, .Assign [.Attribute (.Name "self" q1) f q2] (.Name x q3) q4]) (hr : Room 1 X.A) (I : L2.Inv X pins σ H1 s1)
    (h : ∀ (a t d : Addr) (s' : Shared), s1.heap.objs.size ≤ a → s1.heap.objs.size ≤ d → d ≠ a → (∀ b o, s1.heap.get? b = some o → s'.heap.get? b = some o) → s'.heap.get? a = some (erO C t (some d)) → s'.heap.Ns1 d (fun z => if z = f then some u else none) → s'.gens = s1.gens → s'.os = s1.os → R (.ref a) s') :
    wpAny (model X.prog X.w) X.A (call (.ref C) [u]) R E s1 := by
  obtain ⟨nm, q, N, bs, bm, sn, sub, ab, col, dd, k0, k1, k2, k3, k5, hC, hT, hp⟩ := T.f.cls
  have hsz : s1.heap.objs.size ≤ s1.heap.objs.size + 1 := Nat.le_succ _
  have I0 := I
  obtain ⟨hp, g, dr, tk, os⟩ := s1
  have kk' : ∀ b o, hp.get? b = some o → ((hp.push (PySem.W.kdv_tup [u])).push (PySem.HandSPX.excO C hp.objs.size)).get? b = some o := fun b o e => Heap.get?_push_of_some _ (Heap.get?_push_of_some _ e)
  have hget : ((hp.push (PySem.W.kdv_tup [u])).push (PySem.HandSPX.excO C hp.objs.size)).get? (hp.objs.size + 1) = some (erO C hp.objs.size none) := by heap_get
  have W := (errW I).keeps kk'
  have new : ∀ {b : Addr} {o : Obj}, hp.get? b = some o → hp.objs.size + 1 ≠ b := fun {b o} z => Nat.ne_of_gt (Nat.lt_of_lt_of_le (Heap.lt_size z) hsz)
  obtain ⟨og, g1⟩ : ∃ o, hp.get? mainGlobals = some o := by
    obtain ⟨o, _, _, z, _⟩ := (errW I).glob
    exact ⟨o, z⟩
  obtain ⟨ob, g2⟩ : ∃ o, hp.get? builtinsNs = some o := by
    obtain ⟨mb, ⟨o, _, _, z, _⟩, _⟩ := (errW I).blt
    exact ⟨o, z⟩
  refine wpAny_call (PySem.HandSPX.call_own T.f.bf hT (I.kIn _ _ hC) (PySem.W.looks_findIn I.kIn T.f.ini) (fun self => PySem.W.bind_fn I.kIn self T.f.tI) (by rw [sizeLine_eq]; show 1 ≤ _; decide) ?_)
  refine err_init1 (s := ⟨_, g, dr, tk, os⟩) (t0 := hp.objs.size) T.f T.s hev D hfn hbody (hr.make C [u] []).depth W (I.nolimit.keeps kk') ?_ (new g1) (new g2) hget fun s' F => ?_
  · cases z : X.K.lookup (hp.objs.size + 1) with
    | none => rfl
    | some o => exact absurd rfl (new (I.kIn _ _ z))
  · obtain ⟨k, ⟨t, d, h1, h2, h3, h4⟩, hg, ho⟩ := F
    have hlt := Heap.lt_size hget
    exact ⟨rfl, h _ t d s' hsz (Nat.le_trans (Nat.le_of_lt (Nat.lt_of_succ_lt hlt)) h3) h4 (fun b o z => k b o (new z).symm (kk' b o z)) h1 h2 hg ho⟩
/-- raise C(x): the error, its dict at d, new -/
def tMk1 (C : Addr) (f : Str) (ta : TA) : L2.St → Hp → XK → Prop := fun σ H Q => ta σ H fun vs H1 => ∃ v, vs = [v] ∧ ∀ d, H1 d = none → Q (.ref C) (some d) (upd H1 d (.xd [(f, v)]))
theorem relO1 {f : Str} {v : V} {u : Value} (r : RelV v u) (g : Str) : RelO (([(f, v)] : List (Str × V)).lookup g) (if g = f then some u else none) := relO_put (fs := []) (mA := fun _ => none) r (fun g => True.intro) g
theorem pmk_err1 {e : Expr} {ta : TA} {p pos : Pos} (T : ErrT X.prog X.K X.mg C fI B newId initId bmB ["self", x] params body scope) (hev : SupOk scope txt kk p0 p1 p2 p3 p4) (D : Sto scope x f q1 q2 q3 q4) (hfn : PySem.W.findIn X.K (.ref C) f = some none)
    (hbody : body = [.Expr (supE txt kk p0 p1 p2 p3 p4) p5, .Assign [.Attribute (.Name "self" q1) f q2] (.Name x q3) q4]) (hr : Room 1 X.A) (hg : Gl X cn) (hm : X.mg cn = some (.ref C)) (ha : PA X [e] ta)
    (hdb : (cn == ("__debug__" : Str)) = false := by decide) (he : starEach [e] X.env = (false, eval e X.env) :: starEach [] X.env := by rfl) : PMk X (.Call (.Name cn p) [e] [] pos) (tMk1 C f ta) := by
  intro pins s σ H Q I h
  refine wpAny_Call_Name_kw (ld_glob I hg hm ?_ hdb)
  refine PySem.W.callWith_K (h₀ := X.base) I.ok.mod.kin T.f.kC (thn (ha.run pos pins s σ H _ I h) fun us s1 ⟨vs, H1, I1, r1, v, ev, q1⟩ => ⟨I1.kIn, ?_⟩) he rfl
  subst ev
  cases r1 with
  | @cons _ u _ ur ru rr =>
    cases rr
    show wpAny _ _ (call (.ref C) [u]) _ _ _
    refine err_make1 T hev D hfn hbody hr I1 fun a t d s' z1 z2 z3 z4 z5 z6 z7 z8 => ?_
    obtain ⟨G, J, kG, ge, na⟩ := err_inv I1 z1 z2 z3 z4 z6 (relO1 ru)
    exact ⟨a, _, _, _, _, .ref C, some d, rfl, J, kG, ge, z5, ⟨rfl, rfl⟩, rfl, rfl, na, z8, by rw [z7]; exact I1.bare, raises_own T.f.exC T.f.tyC, q1 d (I1.hok.fresh z2)⟩
end
end L3
namespace L3
open PySem PySem.Spec PyProof.Rows L2
open MeetsSeq MeetsSeq2 MeetsSeq3 SeqRoads2
open AutoSeq1 (wpAny_loadPart')
/-- x == y answers b, and nothing changes -/
def EqStep (X : Cx) (H : Hp) (x y : V) (b : Bool) : Prop := ∀ (pins : List (Addr × Obj)) (s : Shared) (σ : L2.St) (H' : Hp) (u v : Value) (Q : Bool → Shared → Prop) (E' : Value → Shared → Prop), L2.Inv X pins σ H' s → Same H H' → RelV x u → RelV y v →
  (∀ H'' s', L2.Inv X pins σ H'' s' → Same H' H'' → Q b s') → wpAny (model X.prog X.w) X.A.in1 (eqBool u v) Q E' s
section
variable {X : Cx} {C f : Addr} {fd : FuncData} {k : Nat} {sp : Sp} {y : Str}
theorem EqStep.self {H : Hp} {a : Addr} : EqStep X H (.ref a) (.ref a) true := by
  intro pins s σ H' u v Q E' I sm r1 r2 h
  cases r1
  cases r2
  unfold eqBool
  refine wpAny_holding ?_
  exact wpAny_ite_split (fun _ => wpAny_bind (wpAny_rule (wpAny_pure (h H' s I (Same.refl _))))) (fun z => (z (by simp)).elim)
theorem EqStep.own {H : Hp} {a b : Addr} {z : Bool} (F : FnOkG X.prog X.w X.K X.mg X.base CX0 k f fd ["self", y] sp) (hr : Room (k + 1) X.A) (hG : X.A.guards = some []) (hb : L2.Binds X.K fd ["self", y] []) (m : Meth X.K C "__eq__" f) (hne : a ≠ b)
    (hn : PySem.W.notFirst X.K C (.ref C) = true) (h : ∀ H', Same H H' → (∃ dx fs, H' a = some (.ins C dx fs)) ∧ (∃ dx fs, H' b = some (.ins C dx fs)) ∧ sp [.ref a, .ref b] H' (fun v H'' => v = .bl z ∧ Same H' H'') E0) : EqStep X H (.ref a) (.ref b) z := by
  intro pins s σ H' u v Q E' I sm r1 r2 hQ
  cases r1
  cases r2
  obtain ⟨⟨dx, fs, ha⟩, ⟨dy, gs, hb'⟩, h⟩ := h H' sm
  obtain ⟨mA, O, _⟩ := ins_get I.hok ha
  obtain ⟨od, J, _⟩ := O.look
  obtain ⟨mB, O2, _⟩ := ins_get I.hok hb'
  obtain ⟨od2, J2, _⟩ := O2.look
  obtain ⟨mm, FF⟩ := I.fr
  unfold eqBool
  refine wpAny_holding ?_
  refine wpAny_ite_split (fun hab => absurd (by have := eq_of_beq hab; injection this) hne) (fun _ => ?_)
  refine wpAny_bind ?_
  have hu := hr.units
  refine PySem.W.cmp_K (op := .Eq) (by show X.A.units + 1 < cLine; omega) FF I.ok.mod.kin J J2.type hn m.at_ m.fn ?_
  refine run_own (vs := [.ref a, .ref b]) (us := [.ref a, .ref b]) F hr hG hb I (.cons rfl (.cons rfl .nil)) h fun w s' hq => ?_
  obtain ⟨v, H2, I2, rv, rfl, sm2⟩ := hq
  cases rv
  exact (show wpAny _ _ (truthy (.bool z)) _ _ _ from wpAny_truthy_bool (hQ H2 s' I2 sm2))
end
end L3
namespace L3
open PySem PySem.Spec PyProof.Rows L2
/-- each list whose repr is under way holds an own object -/
def GOk (H : Hp) (g : List Code) : Prop := ∀ id v rest kw, Code.builtin id ⟨v :: rest, kw⟩ ∈ g → ∃ (l m C dx : Addr) (xs : List V) (fs : List (Str × V)), v = .ref l ∧ H l = some (.lst xs) ∧ V.ref m ∈ xs ∧ H m = some (.ins C dx fs)
theorem GOk.nil (H : Hp) : GOk H [] := fun _ _ _ _ h => nomatch h
theorem GOk.same {H H' : Hp} {g : List Code} (h : GOk H g) (s : Same H H') : GOk H' g := fun id v rest kw hm => by
  obtain ⟨l, m, C, dx, xs, fs, h1, h2, h3, h4⟩ := h id v rest kw hm
  exact ⟨l, m, C, dx, xs, fs, h1, s _ _ h2, h3, s _ _ h4⟩
theorem GOk.cons {H : Hp} {g : List Code} {id : String} {rest : List Value} {kw : List (Str × Value)} {l m C dx : Addr} {xs : List V} {fs : List (Str × V)} (h : GOk H g) (h2 : H l = some (.lst xs)) (h3 : V.ref m ∈ xs) (h4 : H m = some (.ins C dx fs)) : GOk H (.builtin id ⟨.ref l :: rest, kw⟩ :: g) := fun id' v' rest' kw' hm => by
  rcases List.mem_cons.mp hm with e | hm
  · cases e
    exact ⟨l, m, C, dx, xs, fs, rfl, h2, h3, h4⟩
  · exact h _ _ _ _ hm
theorem reads_mem {h : Heap} : ∀ {vs : List Value} {ds : List PyData} {as : List Addr}, ReadsAll h vs ds as → ∀ v ∈ vs, ∃ d as', Reads h v d as'
  | _, _, _, .nil, v, hv => nomatch hv
  | _, _, _, .cons r rs, v, hv => by
    rcases List.mem_cons.mp hv with rfl | hv
    · exact ⟨_, _, r⟩
    · exact reads_mem rs v hv
theorem vals_mem : ∀ {xs : List V} {us : List Value}, Vals xs us → ∀ {m : Addr}, V.ref m ∈ xs → Value.ref m ∈ us
  | _, _, .nil, m, h => nomatch h
  | _, _, .cons r t, m, h => by
    rcases List.mem_cons.mp h with e | h
    · subst e
      cases r
      exact List.mem_cons_self
    · exact List.mem_cons_of_mem _ (vals_mem t h)
section
variable {X : Cx} {pins : List (Addr × Obj)} {σ : L2.St} {H : Hp} {s : Shared} {g : List Code}
/-- what can be read as data is none of these lists -/
theorem gok_clear (I : L2.Inv X pins σ H s) (hg : GOk H g) {b : Addr} {d : PyData} {as : List Addr} (r : Reads s.heap (.ref b) d as) : Clear g b := fun id v rest kw hm z => by
  obtain ⟨l, m, C, dx, xs, fs, h1, h2, h3, h4⟩ := hg id v rest kw hm
  rw [h1] at z
  obtain rfl := Value.ref.inj z
  obtain ⟨_, its, n, rv, hl⟩ := I.hok _ _ h2
  obtain ⟨mA, O, _⟩ := ins_get I.hok h4
  have hm' := vals_mem rv h3
  have hmo : s.heap.get? m = some (PySem.W.instObj C dx) := by
    obtain ⟨_, _, _, q, _⟩ := I.hok _ _ h4
    exact q
  cases r with
  | list q1 q2 q3 q4 =>
    rw [hl] at q1
    cases q1
    have e3 : Data.seq its.toArray n = Data.seq _ _ := q3
    cases e3
    obtain ⟨d', as', r'⟩ := reads_mem q4 (.ref m) (by simpa using hm')
    cases r' with
    | list w1 w2 _ _ => rw [hmo] at w1; cases w1; cases w2
    | tuple w1 w2 _ _ => rw [hmo] at w1; cases w1; cases w2
    | dict w1 w2 _ _ _ => rw [hmo] at w1; cases w1; cases w2
  | tuple q1 q2 q3 q4 => rw [hl] at q1; cases q1; exact absurd (Value.type.inj q2) (by decide)
  | dict q1 q2 q3 q4 q5 => rw [hl] at q1; cases q1; exact absurd (Value.type.inj q2) (by decide)
end
/-- an around that stands under X.A, with the guards g -/
structure AIn (X : Cx) (k : Nat) (g : List Code) (A : Around) : Prop where
  room : Room k A
  gd : A.guards = some g
  env : ∀ {pins : List (Addr × Obj)} {σ : L2.St} {H : Hp} {s : Shared}, L2.Inv X pins σ H s → Env0 X.prog X.w X.K X.mg X.base A X.stack s H
theorem AIn.base {X : Cx} {k : Nat} {g : List Code} (hr : Room k X.A) (hg : X.A.guards = some g) : AIn X k g X.A := ⟨hr, hg, fun I => I.env0⟩
theorem AIn.in1 {X : Cx} {k : Nat} {g : List Code} {A : Around} (h : AIn X (k + 1) g A) : AIn X k g A.in1 := ⟨h.room.in1, h.gd, fun I => (h.env I).in1⟩
theorem AIn.mono {X : Cx} {j k : Nat} {g : List Code} {A : Around} (h : AIn X k g A) (hj : j ≤ k) : AIn X j g A := ⟨h.room.mono hj, h.gd, h.env⟩
/-- repr(x) is t, and nothing changes -/
def ReprStep (X : Cx) (k : Nat) (H : Hp) (x : V) (t : Str) : Prop := ∀ (base : Nat) (A : Around) (g : List Code) (pins : List (Addr × Obj)) (s : Shared) (σ : L2.St) (H' : Hp) (u : Value) (Q : Str → Shared → Prop) (E' : Value → Shared → Prop), base + t.length ≤ sizeLine → AIn X k g A → GOk H' g → L2.Inv X pins σ H' s → Same H H' → RelV x u →
  (∀ H'' s', L2.Inv X pins σ H'' s' → Same H' H'' → Q t s') → wpAny (model X.prog X.w) A (pyReprUnder base u) Q E' s
section
variable {X : Cx} {k : Nat} {H : Hp}
theorem ReprStep.data {x : V} {d : PyData} (hd : Dp X.K H x d) (hs : d.showable = true) (hz : d.shown.length ≤ sizeLine) (hp : d.depth ≤ 50) : ReprStep X k H x d.shown := by
  intro base A g pins s σ H' u Q E' hb hA hg I sm rx hQ
  have hd' := Dp.same sm hd
  obtain ⟨as, r⟩ := Dp.reads I d x u hd' rx
  obtain ⟨bs, hbs, hk⟩ := ReprK.of_reads (prog := X.prog) (w := X.w) r hs (PyData.noDict_hsm (dp_noDict (K := X.K) (H := H') hd')) hz
  have hu := hA.room.units
  refine hk base hb A g E' s Q hA.gd (fun b hbm => ?_) (by omega) (fun _ _ e => e) fun h' tk kk => hQ H' _ (I.kept kk) (Same.refl _)
  obtain ⟨d', as', r', _⟩ := hbs b hbm
  exact gok_clear I hg r'
end
/-- a def that is called while reprs are under way -/
structure FnOkH (P : Program) (w : World) (K : PySem.W.Frag) (mg : Str → Option Value) (base : Heap) (CX : CXT) (k : Nat) (f : Addr) (fd : FuncData) (ps : List Str) (sp : Sp) : Prop where
  len : ∀ vs H Q E, sp vs H Q E → vs.length = ps.length
  run : ∀ (A : Around) (outer : List Env) (s : Shared) (H : Hp) (args : Args) (us : List Value) (vs : List V) (Q : VK) (E : XK) (g : List Code), Room k A → A.guards = some g → GOk H g → Env0 P w K mg base A outer s H → BindsTo s fd args (ps.zip us) → Vals vs us → sp vs H Q E →
    codeAny (model P w) A (.call (.ref f) args) (CR CX outer P w H s Q E) s
section
variable {X : Cx} {C f : Addr} {fd : FuncData} {k : Nat} {sp : Sp} {H : Hp}
theorem ReprStep.own {a : Addr} {t : Str} (F : FnOkH X.prog X.w X.K X.mg X.base CX0 k f fd ["self"] sp) (hb : L2.Binds X.K fd ["self"] []) (m : Meth X.K C "__repr__" f)
    (h : ∀ H', Same H H' → (∃ dx fs, H' a = some (.ins C dx fs)) ∧ sp [.ref a] H' (fun v H'' => v = .str t ∧ Same H' H'') E0) (hz : t.length ≤ sizeLine) : ReprStep X k H (.ref a) t := by
  intro base A g pins s σ H' u Q E' hbs hA hg I sm rx hQ
  cases rx
  obtain ⟨⟨dx, fs, ha⟩, h⟩ := h H' sm
  obtain ⟨mA, O, _⟩ := ins_get I.hok ha
  obtain ⟨od, J, _⟩ := O.look
  have X1 := I.kIn
  have hu := hA.room.units
  have hrun : wpAny (model X.prog X.w) A (call (.ref f) [.ref a]) (fun v s' => ∃ H'' tk, v = .str t tk ∧ L2.Inv X pins σ H'' s' ∧ Same H' H'') E' s := by
    have hl : ([Value.ref a] ++ []).length = ["self"].length := rfl
    have hb' : BindsTo s fd ⟨[.ref a], []⟩ ([("self" : Str)].zip [Value.ref a]) := hb s [.ref a] I.kIn rfl
    refine wpAny_call (codeAny_mono (F.run A X.stack s H' ⟨[.ref a], []⟩ [.ref a] [.ref a] _ E0 g hA.room hA.gd hg (hA.env I) hb' (.cons rfl .nil) h) fun r s' hq => ?_)
    cases r with
    | error e => exact (show False from hq).elim
    | ok fl =>
      cases fl with
      | ret w =>
        obtain ⟨v, H2, I2, rv, rfl, sm2⟩ := I.after hq
        obtain ⟨tk, rfl⟩ := rv
        exact ⟨H2, tk, rfl, I2, sm2⟩
      | next => exact False.elim hq
      | brk => exact False.elim hq
      | cont => exact False.elim hq
  refine wpAny_pyReprUnder_ref (by omega) ?_
  unfold pyReprObjUnder pyReprObjBy
  refine wpAny_bind (wpAny_cRoomFor (by omega) ?_)
  refine wpAny_bind (wpAny_bind (J.type.here ((PySem.W.looks_findIn X1 m.at_).here ?_)))
  show wpAny _ _ (if (some (Value.ref f)).isNone = true then _ else _) _ _ _
  rw [if_neg (by simp)]
  refine wpAny_bind ?_
  simp only [callSpecialIfBoundBy?, bindSpecialIfBound?]
  refine wpAny_holding (wpAny_bind (wpAny_bind (wpAny_bind (J.type.here ((PySem.W.looks_findIn X1 m.at_).here ?_)))))
  refine wpAny_bind (wpAny_askSetting (wpAny_ite ?_))
  have last : ∀ (Q' : Option Value → Shared → Prop), (∀ H'' s' tk, L2.Inv X pins σ H'' s' → Same H' H'' → Q' (some (.str t tk)) s') → wpAny (model X.prog X.w) A ((match reprUnder? (.ref f), [Value.ref a] with | some twin, [self] => call twin [self, rawInt base] | _, _ => call (.ref f) ([Value.ref a] ++ [])) >>= fun v => pure (some v)) Q' E' s := fun Q' hQ' => by
    refine wpAny_bind (wpAny_mono hrun (fun v s' hv => ?_) fun _ _ e => e)
    obtain ⟨H'', tk, rfl, I2, sm2⟩ := hv
    exact wpAny_pure (hQ' H'' s' tk I2 sm2)
  have fin : ∀ H'' s' tk, L2.Inv X pins σ H'' s' → Same H' H'' → wpAny (model X.prog X.w) A (do if ← isInstance (.str t tk) (.type "str") then pure (Value.str t tk) else raiseError "TypeError" s!"__repr__ returned non-string (type {← typeNameOf (.str t tk)})") (fun v s'' => ∃ x u, v = .str x u ∧ Q x s'') E' s' := fun H'' s' tk I2 sm2 => by
    refine wpAny_bind (wpAny_isInstance (typeIs_str _ _ _) isSubtype_str_str ?_)
    rw [if_pos rfl]
    exact wpAny_pure ⟨t, tk, rfl, hQ H'' s' I2 sm2⟩
  split
  · exact wpAny_bind ((PySem.W.bind_fn X1 _ (beq_iff_eq.mp m.fn)).here (wpAny_pure (last _ fun H'' s' tk I2 sm2 => fin H'' s' tk I2 sm2)))
  · exact wpAny_tryCatch (wpAny_bind ((PySem.W.bind_fn X1 _ (beq_iff_eq.mp m.fn)).here (wpAny_pure (last _ fun H'' s' tk I2 sm2 => fin H'' s' tk I2 sm2))))
end
end L3
namespace L3
open PySem PySem.Spec PyProof.Rows L2
open Builtin Builtin.List
/-- a record of ours that may change -/
structure Mine (X : Cx) (pins : List (Addr × Obj)) (P : Addr) : Prop where
  new : X.s_0.heap.objs.size ≤ P
  cell : ∀ x c, X.env.cells.lookup x = some c → c ≠ P
  pin : ∀ p ∈ X.pn ++ pins, p.1 ≠ P
section
variable {X : Cx} {pins : List (Addr × Obj)} {σ : L2.St} {H : Hp} {s : Shared} {P : Addr}
theorem Mine.of (I : L2.Inv X pins σ H s) (hP : s.heap.objs.size ≤ P) : Mine X pins P := by
  refine ⟨Nat.le_trans I.sz hP, fun x c e z => ?_, fun p hp z => ?_⟩
  · obtain ⟨v, o, hv, _⟩ := I.cell x c e
    rw [z] at hv
    exact absurd (Heap.lt_size hv) (Nat.not_lt.mpr hP)
  · obtain ⟨q, _⟩ := I.pin p hp
    rw [z] at q
    exact absurd (Heap.lt_size q) (Nat.not_lt.mpr hP)
end
end L3
namespace L3
open PySem PySem.Spec PyProof.Rows L2
def keyD : Key → PyData
  | .inl i => .int i
  | .inr x => .str x
theorem keyD_noDict : ∀ ks : List Key, PyData.hasDictAll (ks.map keyD) = false
  | [] => by simp only [List.map_nil, PyData.hasDictAll]
  | .inl i :: ks => by
    have := keyD_noDict ks
    simp only [List.map_cons, PyData.hasDictAll, keyD, PyData.hasDict, this, Bool.or_self]
  | .inr i :: ks => by
    have := keyD_noDict ks
    simp only [List.map_cons, PyData.hasDictAll, keyD, PyData.hasDict, this, Bool.or_self]
section
variable {P : Program} {w : World} {h : Heap}
/-- what the entries of a dict hold -/
theorem ent_of : ∀ {es : List DictEntry} {kvs : List (Key × V)} {vs : List (Key × Value)}, KV kvs vs → Pairs (mixKind P w) es vs → (∃ as, ReadsAll h (es.map (·.key)) (kvs.map fun kv => keyD kv.1) as) ∧ Vals (kvs.map (·.2)) (es.map (·.val))
  | _, _, _, .nil, .nil => ⟨⟨_, .nil⟩, .nil⟩
  | e :: es, kv :: kvs, v :: vs, .cons ⟨h1, h2⟩ r, .cons k1 k2 p => by
    obtain ⟨⟨as, ra⟩, rv⟩ := ent_of r p
    refine ⟨?_, .cons (by show RelV kv.2 e.val; rw [k2]; exact h2) rv⟩
    have k1 : keyIs v.1 e.key = true := k1
    rcases keyIs_shape k1 with ⟨i, t, e1, e2⟩ | ⟨x, t, e1, e2⟩
    · refine ⟨[] ++ as, .cons ?_ ra⟩
      show Reads h e.key (keyD kv.1) []
      rw [e2, h1, e1]
      exact .int i t
    · refine ⟨[] ++ as, .cons ?_ ra⟩
      show Reads h e.key (keyD kv.1) []
      rw [e2, h1, e1]
      exact .str x t
end
theorem zip_fstD {α β : Type} : ∀ {a : List α} {b : List β}, a.length = b.length → (a.zip b).map (·.1) = a
  | [], [], _ => rfl
  | x :: a, y :: b, h => by rw [List.zip_cons_cons, List.map_cons, zip_fstD (Nat.succ.inj h)]
theorem zip_sndD {α β : Type} : ∀ {a : List α} {b : List β}, a.length = b.length → (a.zip b).map (·.2) = b
  | [], [], _ => rfl
  | x :: a, y :: b, h => by rw [List.zip_cons_cons, List.map_cons, zip_sndD (Nat.succ.inj h)]
/-- the data of a dict -/
def dDict (kvs : List (Key × V)) (ds : List PyData) : PyData := .dict ((kvs.map fun kv => keyD kv.1).zip ds)
section
variable {X : Cx} {k : Nat} {H : Hp}
theorem ReprStep.dct {a : Addr} {kvs : List (Key × V)} {ds : List PyData} (ha : H a = some (.dK kvs)) (hv : DpAll X.K H (kvs.map (·.2)) ds) (hs : (dDict kvs ds).showable = true) (hz : (dDict kvs ds).shown.length ≤ sizeLine) (hp : (dDict kvs ds).depth ≤ 50) : ReprStep X k H (.ref a) (dDict kvs ds).shown := by
  intro base A g pins s σ H' u Q E' hb hA hg I sm rx hQ
  cases rx
  have ha' := sm _ _ ha
  have hv' := DpAll.same sm hv
  have hu := hA.room.units
  obtain ⟨z, hsys, vs, rel, o, es, ep, ho, hex, hd, hkeys, hpairs, hnd⟩ := dk_of I.hok ha'
  obtain ⟨⟨as, ra⟩, rv⟩ := ent_of (h := s.heap) rel hpairs
  obtain ⟨bs, rb⟩ := Dp.readsAll I ds _ _ hv' rv
  have hlen : (kvs.map fun kv => keyD kv.1).length = ds.length := by rw [← dpAll_len hv', List.length_map, List.length_map]
  unfold dDict at hs hz hp hQ hb
  have e1 := zip_fstD hlen
  have e2 := zip_sndD hlen
  have nk := keyD_noDict (kvs.map (·.1))
  rw [List.map_map] at nk
  have nk : PyData.hasDictAll (kvs.map fun kv => keyD kv.1) = false := nk
  have nv : PyData.hasDictAll ds = false := dpAll_noDict hv'
  generalize (kvs.map fun kv => keyD kv.1).zip ds = kd at *
  rw [← e1] at ra nk
  rw [← e2] at rb nv
  have hz' : (dictText (PyData.shownKv kd)).length ≤ sizeLine := by simpa only [PyData.shown] using hz
  obtain ⟨hs1, hs2⟩ := PyData.showableKv_split kd (by simpa [PyData.showable] using hs)
  obtain ⟨b1, hb1, k1⟩ := ReprAllK.of_readsAll (prog := X.prog) (w := X.w) ra hs1 (fun q => by rw [nk] at q; cases q) (fun t ht => let ⟨p, hp, hl⟩ := PyData.shownKv_key_le kd t ht; Nat.le_trans hl (Nat.le_trans (dictText_mem_le hp) hz'))
  obtain ⟨b2, hb2, k2⟩ := ReprAllK.of_readsAll (prog := X.prog) (w := X.w) rb hs2 (fun q => by rw [nv] at q; cases q) (fun t ht => let ⟨p, hp, hl⟩ := PyData.shownKv_val_le kd t ht; Nat.le_trans hl (Nat.le_trans (dictText_mem_le hp) hz'))
  have hcls : o.cls = .type "dict" := hex.1
  have r : Reads s.heap (.ref a) (.dict kd) _ := .dict ho hcls hd ra rb
  have hbm : ReadAtMost s.heap (PyData.depthKv kd) (b1 ++ b2) := (hb1.mono (PyData.depthAll_keys_le kd)).append (hb2.mono (PyData.depthAll_vals_le kd))
  have hna : a ∉ b1 ++ b2 := not_mem_of_deeper r (by simp only [PyData.depth]; omega) hbm
  have hk : ReprK X.prog X.w (a :: (b1 ++ b2)) s.heap (PyData.depthKv kd + 1) (.ref a) (dictText (List.zipWith (fun k v : Str => k ++ ": " ++ v) (PyData.shownAll (kd.map (·.1))) (PyData.shownAll (kd.map (·.2))))) := ReprK.dict ho hcls hd hsys hna (ReprEntriesK.of_two es.toList _ _
    (k1.more_le (fun b hb => List.mem_append_left _ hb) (PyData.depthAll_keys_le kd)) (k2.more_le (fun b hb => List.mem_append_right _ hb) (PyData.depthAll_vals_le kd)))
  have hsh : (PyData.dict kd).shown = dictText (List.zipWith (fun k v : Str => k ++ ": " ++ v) (PyData.shownAll (kd.map (·.1))) (PyData.shownAll (kd.map (·.2)))) := by simp only [PyData.shown, PyData.shownKv_eq]
  have hdp : (PyData.dict kd).depth = PyData.depthKv kd + 1 := by simp only [PyData.depth]
  rw [hsh] at hb hQ
  rw [hdp] at hp
  refine hk base hb A g E' s Q hA.gd (fun b hbm' => ?_) (by omega) (fun _ _ e => e) fun h' tk kk => hQ H' _ (I.kept kk) (Same.refl _)
  rcases List.mem_cons.mp hbm' with rfl | hbm'
  · exact gok_clear I hg r
  · obtain ⟨d', as', r', _⟩ := hbm b hbm'
    exact gok_clear I hg r'
end
end L3
namespace L3
open PySem PySem.Spec PyProof.Rows L2
mutual
inductive DpD (K : PySem.W.Frag) (H : Hp) : V → PyData → Prop
  | data {v : V} {d : PyData} : Dp K H v d → DpD K H v d
  | lst {a : Addr} {xs : List V} {ds : List PyData} : SqL K H a xs → DpDs K H xs ds → DpD K H (.ref a) (.list ds)
  | tup {a : Addr} {xs : List V} {ds : List PyData} : SqT K H a xs → DpDs K H xs ds → DpD K H (.ref a) (.tuple ds)
  | dct {a : Addr} {kvs : List (Key × V)} {ds : List PyData} {kd : List (PyData × PyData)} : H a = some (.dK kvs) → DpDs K H (kvs.map (·.2)) ds → kd = (kvs.map fun kv => keyD kv.1).zip ds → DpD K H (.ref a) (.dict kd)
inductive DpDs (K : PySem.W.Frag) (H : Hp) : List V → List PyData → Prop
  | nil : DpDs K H [] []
  | cons {v : V} {vs : List V} {d : PyData} {ds : List PyData} : DpD K H v d → DpDs K H vs ds → DpDs K H (v :: vs) (d :: ds)
end
theorem DpDs.len {K : PySem.W.Frag} {H : Hp} : ∀ {vs : List V} {ds : List PyData}, DpDs K H vs ds → vs.length = ds.length
  | _, _, .nil => rfl
  | _, _, .cons _ t => congrArg (· + 1) t.len
end L3
namespace L3
open PySem PySem.Spec PyProof.Rows L2 PpSet
end L3
namespace L3
open PySem PySem.Spec PyProof.Rows L2
/-- the text of an __init__ with one field -/
def Bd1 (scope : Scope) (body : List Stmt) (x f : Str) : Prop := ∃ txt kk p0 p1 p2 p3 p4 p5 q1 q2 q3 q4, body = [.Expr (supE txt kk p0 p1 p2 p3 p4) p5, .Assign [.Attribute (.Name "self" q1) f q2] (.Name x q3) q4] ∧ SupOk scope txt kk p0 p1 p2 p3 p4 ∧ Sto scope x f q1 q2 q3 q4
/-- an error class with one field -/
def Er1 (P : Program) (K : PySem.W.Frag) (mg : Str → Option Value) (C : Addr) (x f : Str) : Prop := ∃ fI B newId initId bmB params body scope, ErrT P K mg C fI B newId initId bmB ["self", x] params body scope ∧ Bd1 scope body x f ∧ PySem.W.findIn K (.ref C) f = some none
section
variable {X : Cx} {C : Addr} {cn x f y f2 : Str} {W : WX} {p pos pos2 : Pos} {e e2 : Expr} {ta : TA}
/-- raise C(e) -/
theorem ps_raise1 (hc : X.calm = true) (T : Er1 X.prog X.K X.mg C x f) (hr : Room 1 X.A) (tk : Takes X W) (hm : X.mg cn = some (.ref C)) (ha : PA X [e] ta) (hg : Gl X cn := by rfl) (hdb : (cn == ("__debug__" : Str)) = false := by decide) (he : starEach [e] X.env = (false, eval e X.env) :: starEach [] X.env := by rfl) :
    PS X (.Raise (some (.Call (.Name cn p) [e] [] pos)) none pos2) (fun _ σ H => tMk1 C f ta σ H fun cls d H' => W cls d σ H') := by
  obtain ⟨fI, B, newId, initId, bmB, params, body, scope, T, ⟨txt, kk, p0, p1, p2, p3, p4, p5, q1, q2, q3, q4, hb, hev, D⟩, hfn⟩ := T
  exact ps_raise hc tk (pmk_err1 T hev D hfn hb hr hg hm ha hdb he)
end
/-- how ErrF is shown -/
theorem errF_mk {P : Program} {K : PySem.W.Frag} {mg : Str → Option Value} {C fI pr : Addr} {B newId initId : String} {bmB : List Value} {ps : List Str} {params : Arguments} {body : List Stmt} {scope : Scope}
    {nm q : Str} {N : Addr} {bs : List Value} {sn : List Str} {sub : List Value} {ab : Bool} {col : Option Bool} {dd : Option Addr} {k0 k1 k2 k3 k5 : Option Value}
    {qual : Str} {dV kV doc pm ct oc ccl cl : Value} {an od cdd cld : Option Addr} {cda cc : Addr} {osl ccs csl : Array (Option Value)} {vs : Array Value} {file : Str} {tf : Tok}
    (bf : ExcBaseFacts B newId initId bmB) (sf : PySem.W.KxsFacts B initId) (obj : bmB.contains (.type "object") = true) (pass : ∀ self : Value, refuseLoop self "__setattr__" bmB = pure ())
    (lc : K.lookup C = some (excClassObj nm q C N bs (.ref pr :: bmB) true sn sub ab col dd k0 k1 k2 k3 k5 newId))
    (li : K.lookup fI = some ⟨oc, od, .func (PySem.W.ksFn "__init__" qual params body scope dV kV doc pm an (.ref cda) ct cc), osl⟩) (ei : PySem.W.codeIn K (.ref cda) qual = true)
    (lk : K.lookup cda = some ⟨ccl, cdd, .fields vs, ccs⟩) (v2 : vs[2]? = some (.str file tf)) (fl : ((P.main.file : Str) == file) = true) (lcc : K.lookup cc = some ⟨cl, cld, .cell (some (.ref C)), csl⟩)
    (hb : ∀ s us, us.length = ps.length → BindsTo s (PySem.W.ksFn "__init__" qual params body scope dV kV doc pm an (.ref cda) ct cc) ⟨us, []⟩ (ps.zip us))
    (su : PySem.W.ks_superIn K C C "__init__" = some (some (.builtin initId))) (se : PySem.W.mroIn K C (.ref C) = some true) (sb : PySem.W.subIn K (.ref C) (.type B) = some true) (op : PySem.W.nsIn K cStatics "thirdparty.any" = some none)
    (gl : mg "super" = none) (tp : (P.main.scope.names.lookup ("super" : Str)).isSome = false) (sa : PySem.W.findIn K (.ref C) "__setattr__" = some (some (.builtin "object.__setattr__"))) (ii : PySem.W.findIn K (.ref C) "__init__" = some (some (.ref fI)))
    (ti : PySem.W.typeIn K (.ref fI) = some (.type "function")) (kc : PySem.W.keepIn K (.ref C) = true) (ex : PySem.W.subIn K (.ref C) (.type "BaseException") = some true) (ty : PySem.W.typeIn K (.ref C) = some (.type "type")) :
    ErrF P K mg C fI B newId initId bmB ps params body scope := by
  refine ⟨bf, obj, sf, ⟨nm, q, N, bs, .ref pr :: bmB, sn, sub, ab, col, dd, k0, k1, k2, k3, k5, lc, fun X => ?_, fun self => ?_⟩, ⟨qual, dV, kV, doc, pm, an, cda, ct, cc, oc, od, osl, vs, file, tf, ccl, cdd, ccs, cl, cld, csl, li, ei, lk, v2, fl, lcc, hb⟩, su, se, sb, op, gl, tp, sa, ii, ti, kc, ex, ty⟩
  · rw [List.contains_cons]; rfl
  · rw [refuseLoop_ref, refuseLoop_ref]; exact pass self
end L3
namespace L3
open PySem PySem.Spec PyProof.Rows L2
end L3
namespace L3
open PySem PySem.Spec PyProof.Rows L2
def s3 {α : Type} : List α → List α → List α
  | [], [w, v, u] => [u, v, w]
  | _, _ => []
def n3 {α : Type} : List α → List α → List α
  | [s], [w, v, u] => [s, v, u, w]
  | _, _ => []
theorem kit_sub {K : PySem.W.Frag} {C D : Addr} (hd : PySem.W.hasDictIn K D = true) (ht : PySem.W.typeIn K (.ref D) = some (.type "type")) (h : PySem.W.subIn K (.ref C) (.ref D) = some true) : PySem.W.kitOne K (.ref C) (.ref D) = some true := by
  unfold PySem.W.kitOne
  split
  · rfl
  · obtain ⟨cd, hc, _⟩ := PySem.W.any_some hd
    show (if ((PySem.W.clsIn K D).isSome && PySem.W.typeIn K (.ref D) == some (.type "type")) = true then _ else _) = _
    rw [hc, ht, if_pos (by simp)]
    exact h
theorem kit_tyX {K : PySem.W.Frag} {C : Addr} {T : String} (h : PySem.W.subIn K (.ref C) (.type T) = some true) (hm : PySem.W.kitMeta T = true := by decide +kernel) : PySem.W.kitOne K (.ref C) (.type T) = some true := by
  unfold PySem.W.kitOne
  split
  · rfl
  · show (if PySem.W.kitMeta T = true then _ else _) = _
    rw [if_pos hm]
    exact h
section
variable {prog : Program} {w : World} {A : Around} {E : Value → Shared → Prop} {s : Shared} {K : PySem.W.Frag} {x D : Addr} {ox od : Obj}
theorem exc_class {Q : Option Value → Shared → Prop} (C : ExcC K D) (X : K.In s.heap) (I : PySem.W.InstAt s.heap x ox D (some od)) (h : Q (some (.ref D)) { s with toks := s.toks + 1 }) : wpAny (model prog w) A (getAttr? (.ref x) "__class__") Q E s := by
  have hf : PySem.W.findObj K D (some od) "__class__" = some (.bind (.builtin "getset_descriptor.__get__") (.builtin "object.__class__")) := PySem.W.findObj_data (by obtain ⟨cd, hc, _⟩ := PySem.W.any_some C.hd; rw [hc]; rfl) C.ha C.hn C.ht
  obtain ⟨hp, g, d, t, os⟩ := s
  have lT := I.type (M := model prog w)
  have lG := PySem.W.looks_findIn (M := model prog w) X C.hg
  have lK := PySem.W.looks_findIn (M := model prog w) X C.hk
  have lF := PySem.W.looks_find (M := model prog w) X I hf
  have isB : PySem.W.Looks (model prog w) hp (isInstance (.ref x) (.type "BaseException")) true := lT.andThen (PySem.W.looks_subIn X C.hs)
  have b0 : (false && onTheHeap (Value.builtin "BaseException.__getattribute__")) = false := rfl
  have b2 : (Value.builtin "BaseException.__getattribute__" == Value.builtin "object.__getattribute__") = false := by decide +kernel
  have b1 : (onTheHeap (Value.ref D) && Value.builtin "BaseException.__getattribute__" == Value.builtin "object.__getattribute__") = false := by rw [b2]; rfl
  unfold getAttr? getAttrBy? getAttrBy
  refine wpAny_bind (wpAny_mkText (wpAny_bind (wpAny_attempt (wpAny_holding (wpAny_bind (lT.at (wpAny_bind (lG.at ?_))))))))
  show wpAny _ _ (if (onTheHeap (Value.ref D) && Value.builtin "BaseException.__getattribute__" == Value.builtin "object.__getattribute__") = true then _ else _) _ _ _
  rw [b1, if_neg Bool.false_ne_true]
  unfold getAttrByItsOwn hookBefore
  refine wpAny_bind ?_
  rw [if_pos (show onTheHeap (Value.ref D) = true from rfl)]
  refine lK.at (wpAny_bind (wpAny_attempt (wpAny_holding ?_)))
  unfold callGetattribute
  rw [b0, if_neg Bool.false_ne_true]
  unfold boundAndCalled
  rw [PySem.F.excAttr_ValueError.ga.bind (.ref x)]
  refine wpAny_bind (wpAny_pure ?_)
  show wpAny _ _ (call (.builtin "BaseException.__getattribute__") [.ref x, .str "__class__" t]) _ _ _
  refine wpAny_call (codeAny_call_builtin PySem.F.excAttr_ValueError.ga.plain PySem.F.entry_bexc_ga ?_)
  refine @PySem.W.check_slot (model prog w) _ _ ⟨hp, g, d, t + 1, os⟩ "BaseException.__getattribute__" "BaseException" "__getattribute__" (.ref x) [.str "__class__" t] [] _ (by decide +kernel) (by decide +kernel) isB (PySem.F.args_bexc_ga (.ref x) (.str "__class__" t)) ?_
  unfold Builtin.«object.__getattribute__»
  refine wpAny_bind (wpAny_of_eq (a := ((Value.ref x : Value), [Value.str "__class__" t])) (by first | rfl | (simp only [slotArgs]; rfl)) ?_)
  refine wpAny_bind (wpAny_pure (wpAny_bind (lT.at (wpAny_bind (lF.at ?_)))))
  show wpAny _ _ (holding [Value.builtin "object.__class__"] (call (.builtin "getset_descriptor.__get__") [.builtin "object.__class__", .ref x, .ref D]) >>= ret) _ _ _
  refine wpAny_bind (wpAny_holding (wpAny_call (PySem.W.class_get (s := ⟨hp, g, d, t + 1, os⟩) (ox := ox) (od := some od) X I C.hm ?_)))
  refine wpAny_pure ?_
  show wpAny _ _ (handedOut (.ref D)) _ _ _
  rw [PySem.W.handedOut_of (v := .ref D) rfl]
  first
    | exact wpAny_pure (wpAny_pure h)
    | exact wpAny_pure h
    | exact wpAny_pure (wpAny_bind (wpAny_pure (wpAny_pure h)))
theorem kitx_excD (C : ExcC K D) : PySem.W.KitX K (.ref x) (.ref D) (fun h => PySem.W.InstAt h x ox D (some od)) where
  ty := fun _ _ _ I => I.type
  it := fun _ _ X _ => by
    obtain ⟨cdD, hcD, _⟩ := PySem.W.any_some C.hd
    unfold PySem.W.clsIn at hcD
    split at hcD
    · rename_i c1 d1 cd1 sl1 ho
      intro A1 Q1 E1 s1 k q
      unfold isType loadHead
      exact wpAny_bind (wpAny_loadPart (k _ _ (X _ _ ho)) (wpAny_pure q))
    · cases hcD
  ne := fun h tp dd its n sl X htp => by
    obtain ⟨cdD, hcD, _⟩ := PySem.W.any_some C.hd
    refine Bool.eq_false_iff.mpr fun q => ?_
    have e : D = tp := Value.ref.inj (beq_iff_eq.mp q)
    subst e
    unfold PySem.W.clsIn at hcD
    split at hcD
    · rename_i c1 d1 cd1 sl1 ho
      have z := (X _ _ ho).symm.trans htp
      cases z
    · cases hcD
  ca := fun X I k => exc_class C X I k
end
/-- isinstance(e, c), e the error that the suite holds, its fields at dd -/
def rIsD (K : PySem.W.Frag) (cls : Value) (d : Option Addr) (D a : Addr) : List V → Hp → VK → Prop := fun xs H Q => ∃ (c : V) (cv : Value) (b : Bool) (dd : Addr) (fs : List (Str × V)), xs = [.ref a, c] ∧ cls = .ref D ∧ d = some dd ∧ H dd = some (.xd fs) ∧ (∀ u, RelV c u → u = cv) ∧ PySem.W.kitOne K (.ref D) cv = some b ∧ Q (.bl b) H
theorem call_isD {X : Cx} {a D : Addr} {oe : Obj} {cls : Value} {d : Option Addr} {pn : List (Addr × Obj)} (C : ExcC X.K D) (hz : Zc cls d oe) (hf : ∃ vs, oe.data = .fields vs) : CallR (X.suite a ((a, oe) :: pn)) (.builtin "isinstance") (rIsD X.K cls d D a) := by
  intro pins s σ H xs us Q I r h
  obtain ⟨c, cv, b, dd, fs, rfl, rfl, rfl, ea, hcv, e, q⟩ := h
  match us, r with
  | [_, _], .cons rx (.cons rt .nil) =>
    cases rx
    have ec := hcv _ rt
    subst ec
    obtain ⟨hget, _⟩ := I.pin (a, oe) (List.mem_append.mpr (.inl List.mem_cons_self))
    obtain ⟨vs, hv⟩ := hf
    have hx : ObjOk X.prog X.w H s.heap dd (.xd fs) := I.hok dd _ ea
    obtain ⟨mA, hns, hr⟩ := hx
    obtain ⟨od, ho, hl⟩ := lookIn_ns hns
    have J : PySem.W.InstAt s.heap a oe D (some od) := ⟨hget, hz.1, by unfold PySem.W.notCls; rw [hv] <;> rfl, by rw [hz.2]; exact ho⟩
    exact PySem.W.kia_one (kitx_excD C) I.kIn J e (fun z => nomatch z) fun tk => ⟨.bl b, H, I.kept (t' := tk) fun _ _ z => z, rfl, q⟩
end L3
namespace L3
open PySem PySem.Spec PyProof.Rows L2 LamX
/-- the context of the def at g that got the lambda, entered at s from X -/
abbrev gCx (X : Cx) (N : List Str) (q : Str) (sg : Scope) (g : Addr) (cd : Value) (s : Shared) (H : Hp) : Cx := cxOf C8.CX0 X.prog X.w X.K X.mg X.base N q sg g cd X.A X.stack s H C8.E0
/-- a() in that def, a its first slot: the lambda's body is read at the slots σ where it was made; its errors go to the def's W at its own slots -/
theorem pe_lam_run {X : Cx} {pins : List (Addr × Obj)} {σ : L2.St} {H : Hp} {s : Shared} {N : List Str} {q a : Str} {sg scope : Scope} {g f c' : Addr} {cd pm ctv : Value} {params : Arguments} {body : Expr} {k : Nat} {pn : List (Addr × Obj)} {xe : Value → Shared → Prop} {W : WX} {tb : XK → TE} {p1 p2 : Pos}
    (I : L2.Inv X pins σ H s) (L : LamS X.env.scope scope) (hf : s.heap.get? f = some (PySem.W.kla_obj "<lambda>" (X.env.qual ++ "<lambda>") params body scope (cloFrom X.env.cells scope.names []) pm c' ctv)) (fNone : H f = none) (fFr : f ∉ frs X.stack)
    (hbind : bindArgs (PySem.W.kla_fn "<lambda>" (X.env.qual ++ "<lambda>") params body scope (cloFrom X.env.cells scope.names []) pm (.ref c') ctv) ⟨[], []⟩ = pure [])
    (take : Takes ((gCx X N q sg g cd s H).tr pn xe) W) (room : Room (k + 1) (X.A.deeper (envOfC q sg s.heap.objs.size g cd)))
    (hb : ∀ (A : Around) (outer : List Env) (s : Shared) (H : Hp) (E : XK), Room k (A.deeper (lamEnv X scope s.heap.objs.size f c')) → PE (lamCx X A outer s H E scope f c') body (tb E))
    (hN : N[0]? = some a) (hv : Vis sg a) (hd : (a == ("__debug__" : Str)) = false := by decide) (hcd : (a == ("__classdict__" : Str)) = false := by decide) :
    PE ((gCx X N q sg g cd s H).tr pn xe) (.Call (.Name a p1) [] [] p2) (fun τ HZ Q => τ[0]? = some (some (.ref f)) ∧ HZ c' = some (CodeO c' (X.env.qual ++ "<lambda>")) ∧ tb (WE W τ) σ HZ Q) := by
  refine ⟨fun pinsZ sZ τ HZ Q IZ h => ?_⟩
  obtain ⟨hs, hc, ht⟩ := h
  refine wpAny_Call_Name_kw (thn ((pe_var (pos := p1) (i := 0) hN hv hd hcd).run pinsZ sZ τ HZ (fun v H1 => v = .ref f ∧ H1 = HZ) IZ ⟨.ref f, hs, rfl, rfl⟩) fun u s1 ⟨v, H1, I1, r1, ev, eH⟩ => ?_)
  subst ev eH
  obtain rfl : u = Value.ref f := r1
  have atF : s1.heap.get? f = some (PySem.W.kla_obj "<lambda>" (X.env.qual ++ "<lambda>") params body scope (cloFrom X.env.cells scope.names []) pm c' ctv) := I1.base.keep f _ hf fNone fFr (fun z => nomatch (show f ∈ ([] : List Addr) from z))
  have un : Un (frs X.stack) [] H H1 s.heap s1.heap := I1.base
  obtain ⟨⟨oc, vs, t, hoc, hdc, hvc⟩, _, _⟩ := I1.hok c' _ hc
  have run : codeAny (model X.prog X.w) (X.A.deeper (envOfC q sg s.heap.objs.size g cd)) (.call (.ref f) ⟨[], []⟩) (CR (L2.CX X.prog X.w) (envOfC q sg s.heap.objs.size g cd :: X.stack) X.prog X.w H1 s1 Q (WE W τ)) s1 := by
    refine PySem.W.kla_callFunE room.depth atF rfl L.co L.gen rfl ⟨c', oc, vs, t, rfl, hoc, hdc, hvc⟩ ?_
    rw [hbind]
    refine wpAny_pure (wpAny_newFunctionEnv (fun y hy => (L.own y hy).2) (fun y hy => absurd hy (by simp)) (fun h₁ hns hsb => ⟨I1.nolimit.fresh _ hsb, ?_⟩) L.kind)
    show codeAny _ _ (.expr body (lamEnv X scope s1.heap.objs.size f c')) _ _
    have kp : ∀ b o, s1.heap.get? b = some o → h₁.get? b = some o := fun b o e => hsb.extBut b o (Nat.ne_of_lt (Heap.lt_size e)) (Heap.get?_push_of_some _ e)
    have J : L2.Inv (lamCx X (X.A.deeper (envOfC q sg s.heap.objs.size g cd)) (envOfC q sg s.heap.objs.size g cd :: X.stack) s1 H1 (WE W τ) scope f c') [] σ H1 { s1 with heap := h₁, toks := s1.toks + ([] : List (Str × Value)).length } := lam_start2 I L I1.env0 room.hd un hns kp
    refine PySem.W.kla_codeExpr (wpAny_mono ((hb _ _ s1 H1 (WE W τ) (room.deeper _)).run [] _ _ H1 Q J ht) (fun v s' ⟨w', H', J', rv, z⟩ => ?_) fun e s' z => z)
    exact ⟨w', H', J'.os, J'.bare, J'.base, J'.hok, rv, z⟩
  refine PySem.W.callWith_F0 ⟨_, _, _, _, atF⟩ (wpAny_call (codeAny_mono run fun r s' z => ?_))
  match r, z with
  | .error e, z => exact passAt take τ pinsZ H1 s1 e s' I1 z
  | .ok (.ret u), z => exact I1.after z
/-- the def calls what it got: TT: what it makes of the lambda's reading -/
def GivesS (k : Nat) (X : Cx) (N : List Str) (x : Str) (sg : Scope) (g : Addr) (cd : Value) (bg : List Stmt) (a : Str) (q : Str) (TT : (XK → Hp → VK → Prop) → Hp → VK → Prop) : Prop :=
  ∀ (f c' : Addr) (s : Shared) (H : Hp) (Q : VK) (tl : XK → Hp → VK → Prop), Room (k + 1) (X.A.deeper (envOfC x sg s.heap.objs.size g cd)) →
    (∀ (W : WX) (pn : List (Addr × Obj)) (xe : Value → Shared → Prop) (p1 p2 : Pos), Takes ((gCx X N x sg g cd s H).tr pn xe) W →
      PE ((gCx X N x sg g cd s H).tr pn xe) (.Call (.Name a p1) [] [] p2) (fun τ HZ Q => τ[0]? = some (some (.ref f)) ∧ HZ c' = some (CodeO c' q) ∧ tl (WE W τ) HZ Q)) →
    H c' = some (CodeO c' q) → TT tl H Q →
    ∃ t, PSs (gCx X N x sg g cd s H).nox bg t ∧ t { nx := fun _ H' => Q .non H', rt := Q } (L2.start N [.ref f]) H
/-- x(lambda: body) -/
theorem pe_lamS {X : Cx} {T : List (Addr × Str)} {TT : (XK → Hp → VK → Prop) → Hp → VK → Prop} {x a : Str} {g c P : Addr} {k : Nat} {st : Stmt} {fd : FuncData} {N : List Str} {params : Arguments} {body : Expr} {scope : Scope} {t : XK → TE} {p lpos pos : Pos}
    (hg : Gl X x) (hm : X.mg x = some (.ref g)) (F : Fun X.K x x st g fd) (hb : L2.Binds X.K fd [a] []) (S : FnScope N [a] (defScope st)) (hN : N[0]? = some a) (hv : Vis (defScope st) a)
    (hG : ∀ cdv, GivesS k X N x (defScope st) g cdv (defBody st) a (X.env.qual ++ "<lambda>") TT)
    (TB : TabB X.base X.mg c P) (hcode : X.env.code = .ref c) (hmT : (P, X.env.qual ++ "<lambda>") ∈ T) (hu : ∀ p ∈ T, p.1 = P → p.2 = X.env.qual ++ "<lambda>") (room : Room (k + 2) X.A) (L : LamS X.env.scope scope) (hdef : defaultsOf params X.env = ([], []))
    (hbind : ∀ (q : Str) (cl : List (Str × Addr)) (pm cv ctv : Value), bindArgs (PySem.W.kla_fn "<lambda>" q params body scope cl pm cv ctv) ⟨[], []⟩ = pure [])
    (hbody : ∀ (A : Around) (outer : List Env) (s : Shared) (H : Hp) (E : XK) (f c' : Addr), Room k (A.deeper (lamEnv X scope s.heap.objs.size f c')) → PE (lamCx X A outer s H E scope f c') body (t E))
    (hdb : (x == ("__debug__" : Str)) = false := by decide) (hd : (a == ("__debug__" : Str)) = false := by decide) (hcd : (a == ("__classdict__" : Str)) = false := by decide) :
    PE X (.Call (.Name x p) [.Lambda params body scope lpos] [] pos) (tLam T TT t) := by
  refine ⟨fun pins s σ H Q I h => ?_⟩
  obtain ⟨hT, h⟩ := h
  obtain ⟨oc, od, kV, doc, pm0, an, cdv, ct, osl, efd, lk, hcg⟩ := F.ex
  refine wpAny_Call_Name_kw (ld_glob I hg hm ?_ hdb)
  refine PySem.W.callWith_K (h₀ := X.base) I.ok.mod.kin F.kp ?_ (by rfl) (by rfl)
  show wpAny _ _ (spliced ((false, eval (.Lambda params body scope lpos) X.env) :: backTo pos (starEach [] X.env))) _ _ s
  refine Calls.spliced_cons (lam_make2 I TB hcode hmT hu hT hdef (L.has I.ok) fun f c' pm' ctv H1 s' I1 eN T1 hf hfn hfr hco => ?_)
  refine Calls.spliced_nil ⟨I1.kIn, ?_⟩
  have rc : codeAny (model X.prog X.w) X.A (.call (.ref g) ⟨[.ref f], []⟩) (CR C8.CX0 X.stack X.prog X.w H1 s' Q C8.E0) s' := by
    subst efd
    refine run_ofS (N := N) (ps := [a]) (us := [.ref f]) (vs := [.ref f]) (k := k + 1) lk hcg S room I1.env0 (hb s' [.ref f] I1.kIn rfl) (.cons rfl .nil) rfl fun room' => ?_
    obtain ⟨t', ht', hq'⟩ := hG cdv f c' s' H1 Q (fun E H' Q' => t E σ H' Q') room' (fun W pn xe p1 p2 tk => pe_lam_run (k := k) I1 L hf hfn hfr (hbind _ _ _ _ _) tk room' (fun A outer s H E hr2 => hbody A outer s H E f c' hr2) hN hv hd hcd) hco (h H1 eN T1)
    exact ⟨t', ht'.nox, hq'⟩
  refine wpAny_call (codeAny_mono rc fun r s2 hq => ?_)
  match r, hq with
  | .error e, hq => exact (show False from hq).elim
  | .ok (.ret u), hq => exact I1.after hq
end L3
namespace L3
open PySem PySem.Spec PyProof.Rows L2
end L3
namespace L3
open PySem PySem.Spec PyProof.Rows L2 LamX NdefX
/-- the function at f is F, its code object stands -/
def FnAt2 (f : Addr) (F : NF) (H : Hp) : Prop := H f = some (FnO f F) ∧ H F.c = some (CodeO F.c F.qual)
theorem FnAt2.same {f : Addr} {F : NF} {H H' : Hp} (s : Same H H') (h : FnAt2 f F H) : FnAt2 f F H' := ⟨s _ _ h.1, s _ _ h.2⟩
end L3
namespace L3
open PySem PySem.Spec PyProof.Rows L2 Builtin Builtin.ObjectAttr
end L3
namespace L3
open PySem PySem.Spec PyProof.Rows L2 Builtin Builtin.ObjectAttr
end L3
namespace L3
open PySem PySem.Spec PyProof.Rows L2
end L3
namespace L3
open PySem PySem.Spec PyProof.Rows L2
/-- a clause: the class it names, the slot of its name, what its suite does -/
structure Cls1 where
  c : Value
  slot : Option Nat
  ts : Addr → Value → Option Addr → TS
def Cls1.ends (k : Cls1) (D : Ends) : Ends := match k.slot with
  | none => D
  | some i => ⟨fun τ G => D.nx (τ.set i none) G, D.rt, fun τ G => D.bk (τ.set i none) G, fun τ G => D.ct (τ.set i none) G⟩
def Cls1.start (k : Cls1) (a : Addr) (σ : L2.St) : L2.St := match k.slot with
  | none => σ
  | some i => σ.set i (some (.ref a))
/-- what the clauses wish of an error of the body -/
def wMix (K : PySem.W.Frag) (Wout : WX) (D : Ends) : List Cls1 → WX
  | [] => Wout
  | k :: r => fun cls d σ H => ∃ b, PySem.W.exmOne K cls k.c = some b ∧ (b = true → ∀ a, H a = none → k.ts a cls d (k.ends D) (k.start a σ) H) ∧ (b = false → wMix K Wout D r cls d σ H)
/-- a suite that holds an error -/
def SuOk (X : Cx) (b₀ : Stmt) (su : List Stmt) (ts : Addr → Value → Option Addr → TS) : Prop := ∀ (a : Addr) (oe : Obj) (cls : Value) (d : Option Addr) (pn : List (Addr × Obj)), Zc cls d oe → (∃ vs, oe.data = .fields vs) → PSs (X.suite a ((a, oe) :: pn)) (b₀ :: su) (ts a cls d)
inductive MixOk (X : Cx) : List ExceptHandler → List Cls1 → Prop
  | nil : MixOk X [] []
  | bare {x : Str} {c : Value} {ts : Addr → Value → Option Addr → TS} {b₀ : Stmt} {su : List Stmt} {p1 p2 : Pos} {hs : List ExceptHandler} {l : List Cls1} : Names X x c → SuOk X b₀ su ts → MixOk X hs l → MixOk X (.ExceptHandler (some (.Name x p1)) none (b₀ :: su) p2 :: hs) (⟨c, none, ts⟩ :: l)
  | named {x n : Str} {i : Nat} {c : Value} {ts : Addr → Value → Option Addr → TS} {b₀ : Stmt} {su : List Stmt} {p1 p2 : Pos} {hs : List ExceptHandler} {l : List Cls1} : Names X x c → X.N[i]? = some n → X.env.kindOf n = some .local → SuOk X b₀ su ts → MixOk X hs l → MixOk X (.ExceptHandler (some (.Name x p1)) (some n) (b₀ :: su) p2 :: hs) (⟨c, some i, ts⟩ :: l)
section
variable {X : Cx} {pins : List (Addr × Obj)} {σ : L2.St} {H : Hp} {a : Addr} {cls : Value} {d : Option Addr} {B g : Heap} {sI s : Shared}
/-- an error that flies over this frame -/
structure Fly (X : Cx) (pins : List (Addr × Obj)) (σ : L2.St) (H : Hp) (a : Addr) (cls : Value) (d : Option Addr) (B : Heap) (sI s : Shared) (g : Heap) : Prop where
  J : L2.Inv X pins σ H sI
  nb : ∀ b o, sI.heap.get? b = some o → b ∉ frs X.stack → B.get? b = some o
  up : sI.heap.UpToSlots g
  fl : HandSPX.FlyingZ B (X.env :: X.outer) a (Zc cls d) g
  na : H a = none
  os : s.os = sI.os
  ag : AllBare s.gens
theorem Fly.inv (F : Fly X pins σ H a cls d B sI s g) : L2.Inv X pins σ H { s with heap := g } := F.J.landed F.nb F.fl.1 F.up F.os F.ag
theorem Fly.suite (F : Fly X pins σ H a cls d B sI s g) (hf : X.env.frame = some X.env.locals) : ∃ (oe : Obj) (vs : Array Value), g.get? a = some oe ∧ Zc cls d oe ∧ oe.data = .fields vs ∧ L2.Inv (X.suite a ((a, oe) :: (X.pn ++ pins))) [] σ H { s with heap := g } := by
  obtain ⟨oe, vs, h1, h2, h3⟩ := F.fl.there
  have out : a ∉ frs (X.env :: X.outer) := fun m => by
    obtain ⟨_, u, e, no⟩ := F.fl.2.2.1.mem m
    rw [h1] at e
    cases e
    exact no _ h3
  refine ⟨oe, vs, h1, h2, h3, F.inv.suite h1 h3 F.na (fun z => out ?_) fun m => out ?_⟩
  · exact List.mem_filterMap.mpr ⟨_, List.mem_cons_self, by rw [hf, z]⟩
  · obtain ⟨v, m1, m2⟩ := List.mem_filterMap.mp m
    exact List.mem_filterMap.mpr ⟨v, List.mem_cons_of_mem _ m1, m2⟩
/-- the class of a clause is asked -/
theorem Fly.asked (F : Fly X pins σ H a cls d B sI s g) (hf : X.env.frame = some X.env.locals) {x : Str} {c : Value} {b : Bool} {p1 : Pos} (hc : Names X x c) (hb : PySem.W.exmOne X.K cls c = some b) {M : Value → Shared → Prop} {E : Value → Shared → Prop} (k : M c { s with heap := g }) :
    wpAny (model X.prog X.w) (X.A.mark (some (.ref a))) (eval (.Name x p1) X.env) M E { s with heap := g } := by
  obtain ⟨oe, vs, h1, h2, h3, S⟩ := F.suite hf
  obtain ⟨n1, n2, m | ⟨m, n3, n4⟩⟩ := hc
  · exact ld_glob (X := X.suite a ((a, oe) :: (X.pn ++ pins))) S n1 m k n2
  · exact ld_blt (X := X.suite a ((a, oe) :: (X.pn ++ pins))) S n1 m n3 k n4 n2
theorem Fly.match_ (F : Fly X pins σ H a cls d B sI s g) {c : Value} {b : Bool} (hb : PySem.W.exmOne X.K cls c = some b) : PySem.W.Looks (model X.prog X.w) g (excMatches (.ref a) c) b := by
  obtain ⟨oe, vs, h1, h2, h3⟩ := F.fl.there
  refine PySem.W.exm_one F.inv.kIn (fun A' M' E' s1 k q => ?_) hb
  refine wpAny_typeOf_ref (k _ _ h1) ?_
  rw [h2.1]
  exact q
/-- on from here, the frame's flight noted again -/
theorem Fly.on (F : Fly X pins σ H a cls d B sI s g) {g' : Heap} (f : HandSPX.FlyingZ B (X.env :: X.outer) a (Zc cls d) g') (u : g.UpToSlots g') : Fly X pins σ H a cls d B sI s g' := ⟨F.J, F.nb, F.up.trans u, f, F.na, F.os, F.ag⟩
variable {D : Ends} {Wout : WX} {hs : List ExceptHandler} {x n : Str} {i : Nat} {c : Value} {ts : Addr → Value → Option Addr → TS} {b₀ : Stmt} {su : List Stmt} {p1 p2 : Pos} {b : Bool}
/-- no clause is left -/
theorem Fly.out (F : Fly X pins σ H a cls d B sI s g) (st : X.stack = X.env :: X.outer) (hf : X.env.frame = some X.env.locals) (tk : Takes X Wout) (w : Wout cls d σ H) :
    wpAny (model X.prog X.w) X.A (handleBy (.ref a) X.env []) (SP X pins D) X.xe { s with heap := g } := by
  have throw_ : wpAny (model X.prog X.w) X.A (setFlight (.ref a) X.env.frame) (fun _ s4 => wpAny (model X.prog X.w) X.A (throw (.ref a) : Sem Flow) (SP X pins D) X.xe s4) X.xe { s with heap := g } := by
    rw [hf]
    refine HandSPX.setFlight_upZ F.fl fun g4 sk u4 => ?_
    refine wpAny_throw (tk _ _ ⟨a, B, sI, pins, σ, H, cls, d, rfl, F.J, F.nb, F.up.trans u4, .inr (.inr ?_), F.na, F.os, F.ag, w⟩)
    rw [st]
    exact sk
  obtain ⟨_, _, _, oe, vs, tb, _, _, e1, _, e3, e4, _⟩ := id F.fl
  have ne : ¬ ((Value.ref tb == Value.none) = true) := by simp
  refine wpAny_handleBy_nil ?_
  unfold PySem.passOn
  refine wpAny_bind (wpAny_field e1 e3 e4 ?_)
  rw [if_neg ne]
  first
    | exact wpAny_bind throw_
    | exact wpAny_bind (wpAny_pure (wpAny_bind throw_))
/-- a clause without a name -/
theorem Fly.bare (F : Fly X pins σ H a cls d B sI s g) (hf : X.env.frame = some X.env.locals) (hc : Names X x c) (hsu : SuOk X b₀ su ts) (hb : PySem.W.exmOne X.K cls c = some b) (yes : b = true → ts a cls d D σ H)
    (no : b = false → wpAny (model X.prog X.w) X.A (handleBy (.ref a) X.env hs) (SP X pins D) X.xe { s with heap := g }) :
    wpAny (model X.prog X.w) X.A (handleBy (.ref a) X.env (.ExceptHandler (some (.Name x p1)) none (b₀ :: su) p2 :: hs)) (SP X pins D) X.xe { s with heap := g } := by
  refine wpAny_handleBy_cons (codeAny_handlers_test (F.asked hf hc hb ((F.match_ hb).here ?_))) fun q => nomatch q
  cases b with
  | false => exact no rfl
  | true =>
    refine codeAny_handlers_suite (HandSPX.lands_againZ F.fl fun g4 f4 u4 => ?_)
    have F4 := F.on f4 u4
    have ok := F.J.ok
    obtain ⟨oe, vs, _, z, e3, S⟩ := F4.suite hf
    refine wpAny_mono ((hsu a oe cls d (X.pn ++ pins) z ⟨_, e3⟩).run [] _ _ H _ S (yes rfl)) (fun fl s6 r => ?_) (fun _ _ z => z.elim)
    cases fl with
    | next => obtain ⟨τ, G, S6, q6⟩ := r; exact ⟨τ, G, S6.unsuite ok, q6⟩
    | brk => obtain ⟨τ, G, S6, q6⟩ := r; exact ⟨τ, G, S6.unsuite ok, q6⟩
    | cont => obtain ⟨τ, G, S6, q6⟩ := r; exact ⟨τ, G, S6.unsuite ok, q6⟩
    | ret u => obtain ⟨y, τ, G, S6, ry, q6⟩ := r; exact ⟨y, τ, G, S6.unsuite ok, ry, q6⟩
/-- a clause with a name -/
theorem Fly.named (F : Fly X pins σ H a cls d B sI s g) (hf : X.env.frame = some X.env.locals) (nd : X.N.Nodup) (hc : Names X x c) (hi : X.N[i]? = some n) (hn : X.env.kindOf n = some .local) (hsu : SuOk X b₀ su ts) (hb : PySem.W.exmOne X.K cls c = some b)
    (yes : b = true → ts a cls d ((⟨c, some i, ts⟩ : Cls1).ends D) (σ.set i (some (.ref a))) H)
    (no : b = false → wpAny (model X.prog X.w) X.A (handleBy (.ref a) X.env hs) (SP X pins D) X.xe { s with heap := g }) :
    wpAny (model X.prog X.w) X.A (handleBy (.ref a) X.env (.ExceptHandler (some (.Name x p1)) (some n) (b₀ :: su) p2 :: hs)) (SP X pins D) X.xe { s with heap := g } := by
  refine wpAny_handleBy_cons (codeAny_handlers_test (F.asked hf hc hb ((F.match_ hb).here ?_))) fun q => nomatch q
  cases b with
  | false => exact no rfl
  | true =>
    refine codeAny_handlers_suite_as (HandSPX.lands_againZ F.fl fun g4 f4 u4 => ?_)
    have F4 := F.on f4 u4
    have ok := F.J.ok
    obtain ⟨oe, vs, _, z, e3, S⟩ := F4.suite hf
    refine store_ok (X := X.suite a ((a, oe) :: (X.pn ++ pins))) (v := .ref a) S nd hi (.inl hn) rfl (fun s5 S5 => ?_) (.inr hn)
    refine wpAny_mono ((hsu a oe cls d (X.pn ++ pins) z ⟨_, e3⟩).run [] s5 _ H _ S5 (yes rfl)) (fun fl s6 r => ?_) (fun _ _ z => z.elim)
    cases fl with
    | next => obtain ⟨τ, G, S6, q6⟩ := r; exact gone_ok (S6.unsuite ok) nd hi hn fun s7 J7 => ⟨_, _, J7, q6⟩
    | brk => obtain ⟨τ, G, S6, q6⟩ := r; exact gone_ok (S6.unsuite ok) nd hi hn fun s7 J7 => ⟨_, _, J7, q6⟩
    | cont => obtain ⟨τ, G, S6, q6⟩ := r; exact gone_ok (S6.unsuite ok) nd hi hn fun s7 J7 => ⟨_, _, J7, q6⟩
    | ret u => obtain ⟨y, τ, G, S6, ry, q6⟩ := r; exact gone_ok (S6.unsuite ok) nd hi hn fun s7 J7 => ⟨_, _, _, J7, ry, q6⟩
theorem Fly.all (F : Fly X pins σ H a cls d B sI s g) (st : X.stack = X.env :: X.outer) (hf : X.env.frame = some X.env.locals) (nd : X.N.Nodup) (tk : Takes X Wout) : ∀ {hs : List ExceptHandler} {l : List Cls1}, MixOk X hs l → wMix X.K Wout D l cls d σ H →
    wpAny (model X.prog X.w) X.A (handleBy (.ref a) X.env hs) (SP X pins D) X.xe { s with heap := g }
  | _, _, .nil, w => F.out st hf tk w
  | _, _, .bare hc hsu r, ⟨_, hb, yes, no⟩ => F.bare hf hc hsu hb (fun e => yes e a F.na) fun e => F.all st hf nd tk r (no e)
  | _, _, .named hc hi hn hsu r, ⟨_, hb, yes, no⟩ => F.named hf nd hc hi hn hsu hb (fun e => yes e a F.na) fun e => F.all st hf nd tk r (no e)
end
end L3
namespace L3
open PySem PySem.Spec PyProof.Rows L2
end L3
namespace PySem.SeqAt
open PySem.Meets PySem.MeetsSeq MeetsSeq2 MeetsSeq3 SeqRoads2
end PySem.SeqAt
namespace L3
open PySem PySem.Spec PyProof.Rows L2
end L3
namespace Lw
open PySem PySem.Spec PyProof.Rows L2 L3
def topS (i : Nat) : Stmt := PySem.Challenge.pw_missedparts_k90_whole_texts_of_machines.main.body.getD i (.Pass ⟨0, 0, 0, 0⟩)
abbrev s_is_integer : Stmt := topS 22
abbrev s_is_list : Stmt := topS 23
abbrev s_is_text : Stmt := topS 24
abbrev s_are_letters : Stmt := topS 25
abbrev s_is_text_over : Stmt := topS 26
abbrev s_want_few : Stmt := topS 27
abbrev s_is_row : Stmt := topS 29
abbrev s_want_machine : Stmt := topS 30
abbrev s_met_from : Stmt := topS 31
abbrev s_want_text : Stmt := topS 34
abbrev s_want_place : Stmt := topS 36
abbrev s_led : Stmt := topS 39
abbrev s_is_taken : Stmt := topS 40
abbrev s_contrary : Stmt := topS 41
abbrev s_line_of : Stmt := topS 85
abbrev s_machine_lines : Stmt := topS 86
abbrev s_text_of : Stmt := topS 88
abbrev s_bytes_of : Stmt := topS 89
abbrev s_goal_of : Stmt := topS 90
abbrev s_read_by : Stmt := topS 93
abbrev s_read_machine : Stmt := topS 94
abbrev s_read_sum : Stmt := topS 95
abbrev s_law_pot : Stmt := topS 97
abbrev s_law_draw : Stmt := topS 98
abbrev s_law_pick : Stmt := topS 99
abbrev s_law_met : Stmt := topS 100
abbrev s_law_lines : Stmt := topS 101
abbrev s_law_text : Stmt := topS 102
abbrev s_law_line : Stmt := topS 103
abbrev s_law_mixed : Stmt := topS 104
abbrev s_law_goes : Stmt := topS 105
abbrev s_law_asked_right : Stmt := topS 106
abbrev s_law_plan : Stmt := topS 107
abbrev s_law_right : Stmt := topS 108
abbrev s_law : Stmt := topS 109
theorem sc_is_integer : FnScope ["value"] ["value"] (defScope s_is_integer) := ⟨rfl, rfl, rfl, by decide +kernel, rfl, by decide +kernel, by decide +kernel⟩
theorem sc_is_list : FnScope ["value"] ["value"] (defScope s_is_list) := ⟨rfl, rfl, rfl, by decide +kernel, rfl, by decide +kernel, by decide +kernel⟩
theorem sc_is_text : FnScope ["value", "sign"] ["value"] (defScope s_is_text) := ⟨rfl, rfl, rfl, by decide +kernel, rfl, by decide +kernel, by decide +kernel⟩
theorem sc_are_letters : FnScope ["value"] ["value"] (defScope s_are_letters) := ⟨rfl, rfl, rfl, by decide +kernel, rfl, by decide +kernel, by decide +kernel⟩
theorem sc_is_text_over : FnScope ["letters", "value", "sign"] ["letters", "value"] (defScope s_is_text_over) := ⟨rfl, rfl, rfl, by decide +kernel, rfl, by decide +kernel, by decide +kernel⟩
theorem sc_want_few : FnScope ["what", "many", "limit"] ["what", "many", "limit"] (defScope s_want_few) := ⟨rfl, rfl, rfl, by decide +kernel, rfl, by decide +kernel, by decide +kernel⟩
theorem sc_is_row : FnScope ["value", "size", "many", "goal"] ["value", "size", "many"] (defScope s_is_row) := ⟨rfl, rfl, rfl, by decide +kernel, rfl, by decide +kernel, by decide +kernel⟩
theorem sc_want_machine : FnScope ["letters", "rows", "kinds", "position", "row", "kind"] ["letters", "rows", "kinds"] (defScope s_want_machine) := ⟨rfl, rfl, rfl, by decide +kernel, rfl, by decide +kernel, by decide +kernel⟩
theorem sc_met_from : FnScope ["rows", "start", "found", "at", "goal"] ["rows", "start"] (defScope s_met_from) := ⟨rfl, rfl, rfl, by decide +kernel, rfl, by decide +kernel, by decide +kernel⟩
theorem sc_want_text : FnScope ["letters", "text"] ["letters", "text"] (defScope s_want_text) := ⟨rfl, rfl, rfl, by decide +kernel, rfl, by decide +kernel, by decide +kernel⟩
theorem sc_want_place : FnScope ["machine", "place"] ["machine", "place"] (defScope s_want_place) := ⟨rfl, rfl, rfl, by decide +kernel, rfl, by decide +kernel, by decide +kernel⟩
theorem sc_led : FnScope ["machine", "place", "text", "here", "letter"] ["machine", "place", "text"] (defScope s_led) := ⟨rfl, rfl, rfl, by decide +kernel, rfl, by decide +kernel, by decide +kernel⟩
theorem sc_is_taken : FnScope ["machine", "text"] ["machine", "text"] (defScope s_is_taken) := ⟨rfl, rfl, rfl, by decide +kernel, rfl, by decide +kernel, by decide +kernel⟩
theorem sc_contrary : FnScope ["machine", "kind"] ["machine"] (defScope s_contrary) := ⟨rfl, rfl, rfl, by decide +kernel, rfl, by decide +kernel, by decide +kernel⟩
theorem sc_line_of : FnScope ["words", "word"] ["words"] (defScope s_line_of) := ⟨rfl, rfl, rfl, by decide +kernel, rfl, by decide +kernel, by decide +kernel⟩
theorem sc_machine_lines : FnScope ["machine", "found", "place", "goals"] ["machine"] (defScope s_machine_lines) := ⟨rfl, rfl, rfl, by decide +kernel, rfl, by decide +kernel, by decide +kernel⟩
theorem sc_text_of : FnScope ["entry"] ["entry"] (defScope s_text_of) := ⟨rfl, rfl, rfl, by decide +kernel, rfl, by decide +kernel, by decide +kernel⟩
theorem sc_bytes_of : FnScope ["entry"] ["entry"] (defScope s_bytes_of) := ⟨rfl, rfl, rfl, by decide +kernel, rfl, by decide +kernel, by decide +kernel⟩
theorem sc_goal_of : FnScope ["word", "sign"] ["word"] (defScope s_goal_of) := ⟨rfl, rfl, rfl, by decide +kernel, rfl, by decide +kernel, by decide +kernel⟩
theorem sc_read_by : FnScope ["reader", "written", "lines", "place", "line"] ["reader", "written"] (defScope s_read_by) := ⟨rfl, rfl, rfl, by decide +kernel, rfl, by decide +kernel, by decide +kernel⟩
theorem sc_read_machine : FnScope ["written"] ["written"] (defScope s_read_machine) := ⟨rfl, rfl, rfl, by decide +kernel, rfl, by decide +kernel, by decide +kernel⟩
theorem sc_read_sum : FnScope ["written"] ["written"] (defScope s_read_sum) := ⟨rfl, rfl, rfl, by decide +kernel, rfl, by decide +kernel, by decide +kernel⟩
theorem sc_law_pot : FnScope ["_law_script", "_law_k", "_law_cell"] ["_law_script", "_law_k"] (defScope s_law_pot) := ⟨rfl, rfl, rfl, by decide +kernel, rfl, by decide +kernel, by decide +kernel⟩
theorem sc_law_draw : FnScope ["_law_pot_here", "_law_sides", "_law_digit"] ["_law_pot_here", "_law_sides"] (defScope s_law_draw) := ⟨rfl, rfl, rfl, by decide +kernel, rfl, by decide +kernel, by decide +kernel⟩
theorem sc_law_pick : FnScope ["_law_pot_here", "_law_some"] ["_law_pot_here", "_law_some"] (defScope s_law_pick) := ⟨rfl, rfl, rfl, by decide +kernel, rfl, by decide +kernel, by decide +kernel⟩
theorem sc_law_met : FnScope ["_law_lines_here", "_law_sorts", "_law_met_here", "_law_turn", "_law_at", "_law_goal", "_law_place"] ["_law_lines_here", "_law_sorts"] (defScope s_law_met) := ⟨rfl, rfl, rfl, by decide +kernel, rfl, by decide +kernel, by decide +kernel⟩
theorem sc_law_lines : FnScope ["_law_pot_here", "_law_size", "_law_most", "_law_many", "_law_way", "_law_letter", "_law_place", "_law_steps"] ["_law_pot_here", "_law_size", "_law_most"] (defScope s_law_lines) := ⟨rfl, rfl, rfl, by decide +kernel, rfl, by decide +kernel, by decide +kernel⟩
theorem sc_law_text : FnScope ["_law_signs", "_law_rows_now", "_law_kinds_now", "_law_lines_here", "_law_place", "_law_row", "_law_word", "_law_goal", "_law_line_here"] ["_law_signs", "_law_rows_now", "_law_kinds_now"] (defScope s_law_text) := ⟨rfl, rfl, rfl, by decide +kernel, rfl, by decide +kernel, by decide +kernel⟩
theorem sc_law_line : FnScope ["_law_call", "_law_told", "e"] ["_law_call"] (defScope s_law_line) := ⟨rfl, rfl, rfl, by decide +kernel, rfl, by decide +kernel, by decide +kernel⟩
theorem sc_law_mixed : FnScope ["_law_pot_here", "_law_lines_here", "_law_sorts", "_law_left", "_law_order", "_law_turn", "_law_goal", "_law_place"] ["_law_pot_here", "_law_lines_here", "_law_sorts"] (defScope s_law_mixed) := ⟨rfl, rfl, rfl, by decide +kernel, rfl, by decide +kernel, by decide +kernel⟩
theorem sc_law_goes : FnScope ["_law_lines_here", "_law_signs", "_law_text_here", "_law_here", "_law_sign"] ["_law_lines_here", "_law_signs", "_law_text_here"] (defScope s_law_goes) := ⟨rfl, rfl, rfl, by decide +kernel, rfl, by decide +kernel, by decide +kernel⟩
theorem sc_law_asked_right : FnScope ["_law_pot_here", "_law_back", "_law_signs", "_law_lines_here", "_law_sorts", "_law_turn", "_law_text_here", "_law_more", "_law_here"] ["_law_pot_here", "_law_back", "_law_signs", "_law_lines_here", "_law_sorts"] (defScope s_law_asked_right) := ⟨rfl, rfl, rfl, by decide +kernel, rfl, by decide +kernel, by decide +kernel⟩
theorem sc_law_plan : FnScope ["_law_pot_here", "_law_size", "_law_many", "_law_lines_here", "_law_place", "_law_row", "_law_letter", "_law_sorts", "_law_line_here"] ["_law_pot_here", "_law_size"] (defScope s_law_plan) := ⟨rfl, rfl, rfl, by decide +kernel, rfl, by decide +kernel, by decide +kernel⟩
theorem sc_law_right : FnScope ["_law_pot_here", "_law_signs", "_law_lines_here", "_law_sorts", "_law_thing", "_law_due", "_law_seen", "_law_codes", "_law_sign", "_law_told", "_law_back", "_law_place", "_law_others", "_law_at", "_law_sort", "_law_near"] ["_law_pot_here"] (defScope s_law_right) := ⟨rfl, rfl, rfl, by decide +kernel, rfl, by decide +kernel, by decide +kernel⟩
theorem sc_law : FnScope ["_law_script", "_law_k"] ["_law_script"] (defScope s_law) := ⟨rfl, rfl, rfl, by decide +kernel, rfl, by decide +kernel, by decide +kernel⟩
abbrev s_Machine_init : Stmt := inClass (topS 33) 1
theorem sc_Machine_init : FnScope ["self", "letters", "rows", "kinds", "met", "place", "row"] ["self", "letters", "rows", "kinds"] (defScope s_Machine_init) := ⟨rfl, rfl, rfl, by decide +kernel, rfl, by decide +kernel, by decide +kernel⟩
abbrev s_Machine_rows : Stmt := inClass (topS 33) 4
theorem sc_Machine_rows : FnScope ["self", "row"] ["self"] (defScope s_Machine_rows) := ⟨rfl, rfl, rfl, by decide +kernel, rfl, by decide +kernel, by decide +kernel⟩
abbrev s_Machine_kinds : Stmt := inClass (topS 33) 5
theorem sc_Machine_kinds : FnScope ["self"] ["self"] (defScope s_Machine_kinds) := ⟨rfl, rfl, rfl, by decide +kernel, rfl, by decide +kernel, by decide +kernel⟩
abbrev s_Machine_goes : Stmt := inClass (topS 33) 7
theorem sc_Machine_goes : FnScope ["self", "place", "text"] ["self", "place", "text"] (defScope s_Machine_goes) := ⟨rfl, rfl, rfl, by decide +kernel, rfl, by decide +kernel, by decide +kernel⟩
abbrev s_Machine_takes : Stmt := inClass (topS 33) 8
theorem sc_Machine_takes : FnScope ["self", "text"] ["self", "text"] (defScope s_Machine_takes) := ⟨rfl, rfl, rfl, by decide +kernel, rfl, by decide +kernel, by decide +kernel⟩
abbrev s_Machine_len : Stmt := inClass (topS 33) 14
theorem sc_Machine_len : FnScope ["self"] ["self"] (defScope s_Machine_len) := ⟨rfl, rfl, rfl, by decide +kernel, rfl, by decide +kernel, by decide +kernel⟩
abbrev s_Machine_contains : Stmt := inClass (topS 33) 15
theorem sc_Machine_contains : FnScope ["self", "value"] ["self", "value"] (defScope s_Machine_contains) := ⟨rfl, rfl, rfl, by decide +kernel, rfl, by decide +kernel, by decide +kernel⟩
abbrev s_Machine_eq : Stmt := inClass (topS 33) 16
theorem sc_Machine_eq : FnScope ["self", "other"] ["self", "other"] (defScope s_Machine_eq) := ⟨rfl, rfl, rfl, by decide +kernel, rfl, by decide +kernel, by decide +kernel⟩
abbrev s_Machine_repr : Stmt := inClass (topS 33) 17
theorem sc_Machine_repr : FnScope ["self"] ["self"] (defScope s_Machine_repr) := ⟨rfl, rfl, rfl, by decide +kernel, rfl, by decide +kernel, by decide +kernel⟩
abbrev s_Machine_invert : Stmt := inClass (topS 33) 21
theorem sc_Machine_invert : FnScope ["self"] ["self"] (defScope s_Machine_invert) := ⟨rfl, rfl, rfl, by decide +kernel, rfl, by decide +kernel, by decide +kernel⟩
abbrev s_Machine_letters : Stmt := inClass (topS 33) 3
theorem sc_Machine_letters : FnScope ["self"] ["self"] (defScope s_Machine_letters) := ⟨rfl, rfl, rfl, by decide +kernel, rfl, by decide +kernel, by decide +kernel⟩
abbrev s_MachineReader_init : Stmt := inClass (topS 91) 0
theorem sc_MachineReader_init : FnScope ["self"] ["self"] (defScope s_MachineReader_init) := ⟨rfl, rfl, rfl, by decide +kernel, rfl, by decide +kernel, by decide +kernel⟩
abbrev s_MachineReader_take : Stmt := inClass (topS 91) 1
theorem sc_MachineReader_take : FnScope ["self", "line", "words"] ["self", "line"] (defScope s_MachineReader_take) := ⟨rfl, rfl, rfl, by decide +kernel, rfl, by decide +kernel, by decide +kernel⟩
abbrev s_MachineReader_take_place : Stmt := inClass (topS 91) 2
theorem sc_MachineReader_take_place : FnScope ["self", "words", "many", "goals", "word"] ["self", "words"] (defScope s_MachineReader_take_place) := ⟨rfl, rfl, rfl, by decide +kernel, rfl, by decide +kernel, by decide +kernel⟩
abbrev s_MachineReader_is_lacking : Stmt := inClass (topS 91) 3
theorem sc_MachineReader_is_lacking : FnScope ["self"] ["self"] (defScope s_MachineReader_is_lacking) := ⟨rfl, rfl, rfl, by decide +kernel, rfl, by decide +kernel, by decide +kernel⟩
abbrev s_MachineReader_made : Stmt := inClass (topS 91) 4
theorem sc_MachineReader_made : FnScope ["self", "place", "goals", "found", "e"] ["self"] (defScope s_MachineReader_made) := ⟨rfl, rfl, rfl, by decide +kernel, rfl, by decide +kernel, by decide +kernel⟩
abbrev s_SumReader_init : Stmt := inClass (topS 92) 0
theorem sc_SumReader_init : FnScope ["self"] ["self"] (defScope s_SumReader_init) := ⟨rfl, rfl, rfl, by decide +kernel, rfl, by decide +kernel, by decide +kernel⟩
abbrev s_SumReader_take : Stmt := inClass (topS 92) 1
theorem sc_SumReader_take : FnScope ["self", "line", "words"] ["self", "line"] (defScope s_SumReader_take) := ⟨rfl, rfl, rfl, by decide +kernel, rfl, by decide +kernel, by decide +kernel⟩
abbrev s_SumReader_is_lacking : Stmt := inClass (topS 92) 3
abbrev s_SumReader_made : Stmt := inClass (topS 92) 4
/-- what the top has left of a method -/
structure Dm (K : PySem.W.Frag) (C : Addr) (x qual : Str) (st : Stmt) (ps : List Str) (f : Addr) (fd : FuncData) : Prop where
  F : Fun K x qual st f fd
  b : L2.Binds K fd ps []
  m : Meth K C x f
/-- .. of a property -/
structure Dp1 (K : PySem.W.Frag) (C : Addr) (x qual : Str) (st : Stmt) (p f : Addr) (fd : FuncData) : Prop where
  F : Fun K x qual st f fd
  b : L2.Binds K fd ["self"] []
  p : PropOf K C x p f
/-- what the top has left of a def -/
structure Dn (K : PySem.W.Frag) (mg : Str → Option Value) (x : Str) (st : Stmt) (ps : List Str) (f : Addr) (fd : FuncData) : Prop where
  F : Fun K x x st f fd
  b : L2.Binds K fd ps []
  g : mg x = some (.ref f)
abbrev s_InvalidRow_init : Stmt := inClass (topS 13) 0
theorem es_InvalidRow : ErrS ["self", "row"] (defArgs s_InvalidRow_init) (defScope s_InvalidRow_init) := ⟨rfl, rfl, by decide +kernel, ⟨_, rfl, rfl⟩, rfl, by decide, rfl, by decide +kernel, rfl, rfl⟩
theorem eb_InvalidRow : Bd1 (defScope s_InvalidRow_init) (defBody s_InvalidRow_init) "row" "row" := ⟨_, _, _, _, _, _, _, _, _, _, _, _, rfl, fun _ _ _ _ _ => ⟨_, rfl⟩, ⟨rfl, by decide, fun _ _ _ _ _ => rfl⟩⟩
abbrev PW : Program := PySem.Challenge.pw_missedparts_k90_whole_texts_of_machines
structure All (K : PySem.W.Frag) (mg : Str → Option Value) where
  C_InvalidRow : Addr
  g_InvalidRow : mg "InvalidRow" = some (.ref C_InvalidRow)
  er_InvalidRow : Er1 PW K mg C_InvalidRow "row" "row"
  xf_InvalidRow : XfC K C_InvalidRow
  te_InvalidRow : PySem.W.exmOne K (.ref C_InvalidRow) (.ref C_InvalidRow) = some true
  nf_InvalidRow_row : PySem.W.findIn K (.ref C_InvalidRow) "row" = some none
  f_is_integer : Addr
  d_is_integer : FuncData
  is_integer : Dn K mg "is_integer" s_is_integer ["value"] f_is_integer d_is_integer
  f_is_list : Addr
  d_is_list : FuncData
  is_list : Dn K mg "is_list" s_is_list ["value"] f_is_list d_is_list
  f_is_text : Addr
  d_is_text : FuncData
  is_text : Dn K mg "is_text" s_is_text ["value"] f_is_text d_is_text
  f_are_letters : Addr
  d_are_letters : FuncData
  are_letters : Dn K mg "are_letters" s_are_letters ["value"] f_are_letters d_are_letters
  f_is_text_over : Addr
  d_is_text_over : FuncData
  is_text_over : Dn K mg "is_text_over" s_is_text_over ["letters", "value"] f_is_text_over d_is_text_over
  f_want_few : Addr
  d_want_few : FuncData
  want_few : Dn K mg "want_few" s_want_few ["what", "many", "limit"] f_want_few d_want_few
  f_is_row : Addr
  d_is_row : FuncData
  is_row : Dn K mg "is_row" s_is_row ["value", "size", "many"] f_is_row d_is_row
  f_want_machine : Addr
  d_want_machine : FuncData
  want_machine : Dn K mg "want_machine" s_want_machine ["letters", "rows", "kinds"] f_want_machine d_want_machine
  f_met_from : Addr
  d_met_from : FuncData
  met_from : Dn K mg "met_from" s_met_from ["rows", "start"] f_met_from d_met_from
  f_want_text : Addr
  d_want_text : FuncData
  want_text : Dn K mg "want_text" s_want_text ["letters", "text"] f_want_text d_want_text
  f_want_place : Addr
  d_want_place : FuncData
  want_place : Dn K mg "want_place" s_want_place ["machine", "place"] f_want_place d_want_place
  f_led : Addr
  d_led : FuncData
  led : Dn K mg "led" s_led ["machine", "place", "text"] f_led d_led
  f_is_taken : Addr
  d_is_taken : FuncData
  is_taken : Dn K mg "is_taken" s_is_taken ["machine", "text"] f_is_taken d_is_taken
  f_contrary : Addr
  d_contrary : FuncData
  contrary : Dn K mg "contrary" s_contrary ["machine"] f_contrary d_contrary
  f_line_of : Addr
  d_line_of : FuncData
  line_of : Dn K mg "line_of" s_line_of ["words"] f_line_of d_line_of
  f_machine_lines : Addr
  d_machine_lines : FuncData
  machine_lines : Dn K mg "machine_lines" s_machine_lines ["machine"] f_machine_lines d_machine_lines
  f_text_of : Addr
  d_text_of : FuncData
  text_of : Dn K mg "text_of" s_text_of ["entry"] f_text_of d_text_of
  f_bytes_of : Addr
  d_bytes_of : FuncData
  bytes_of : Dn K mg "bytes_of" s_bytes_of ["entry"] f_bytes_of d_bytes_of
  f_goal_of : Addr
  d_goal_of : FuncData
  goal_of : Dn K mg "goal_of" s_goal_of ["word"] f_goal_of d_goal_of
  f_read_by : Addr
  d_read_by : FuncData
  read_by : Dn K mg "read_by" s_read_by ["reader", "written"] f_read_by d_read_by
  f_read_machine : Addr
  d_read_machine : FuncData
  read_machine : Dn K mg "read_machine" s_read_machine ["written"] f_read_machine d_read_machine
  f_read_sum : Addr
  d_read_sum : FuncData
  read_sum : Dn K mg "read_sum" s_read_sum ["written"] f_read_sum d_read_sum
  f_law_pot : Addr
  d_law_pot : FuncData
  law_pot : Dn K mg "_law_pot" s_law_pot ["_law_script", "_law_k"] f_law_pot d_law_pot
  f_law_draw : Addr
  d_law_draw : FuncData
  law_draw : Dn K mg "_law_draw" s_law_draw ["_law_pot_here", "_law_sides"] f_law_draw d_law_draw
  f_law_pick : Addr
  d_law_pick : FuncData
  law_pick : Dn K mg "_law_pick" s_law_pick ["_law_pot_here", "_law_some"] f_law_pick d_law_pick
  f_law_met : Addr
  d_law_met : FuncData
  law_met : Dn K mg "_law_met" s_law_met ["_law_lines_here", "_law_sorts"] f_law_met d_law_met
  f_law_lines : Addr
  d_law_lines : FuncData
  law_lines : Dn K mg "_law_lines" s_law_lines ["_law_pot_here", "_law_size", "_law_most"] f_law_lines d_law_lines
  f_law_text : Addr
  d_law_text : FuncData
  law_text : Dn K mg "_law_text" s_law_text ["_law_signs", "_law_rows_now", "_law_kinds_now"] f_law_text d_law_text
  f_law_line : Addr
  d_law_line : FuncData
  law_line : Dn K mg "_law_line" s_law_line ["_law_call"] f_law_line d_law_line
  f_law_mixed : Addr
  d_law_mixed : FuncData
  law_mixed : Dn K mg "_law_mixed" s_law_mixed ["_law_pot_here", "_law_lines_here", "_law_sorts"] f_law_mixed d_law_mixed
  f_law_goes : Addr
  d_law_goes : FuncData
  law_goes : Dn K mg "_law_goes" s_law_goes ["_law_lines_here", "_law_signs", "_law_text_here"] f_law_goes d_law_goes
  f_law_asked_right : Addr
  d_law_asked_right : FuncData
  law_asked_right : Dn K mg "_law_asked_right" s_law_asked_right ["_law_pot_here", "_law_back", "_law_signs", "_law_lines_here", "_law_sorts"] f_law_asked_right d_law_asked_right
  f_law_plan : Addr
  d_law_plan : FuncData
  law_plan : Dn K mg "_law_plan" s_law_plan ["_law_pot_here", "_law_size"] f_law_plan d_law_plan
  f_law_right : Addr
  d_law_right : FuncData
  law_right : Dn K mg "_law_right" s_law_right ["_law_pot_here"] f_law_right d_law_right
  f_law : Addr
  d_law : FuncData
  law : Dn K mg "law" s_law ["_law_script"] f_law d_law
  C_Machine : Addr
  cl_Machine : Cls K C_Machine
  g_Machine : mg "Machine" = some (.ref C_Machine)
  mk_Machine : PySem.W.makesIn K C_Machine = true
  kp_Machine : PySem.W.keepIn K (.ref C_Machine) = true
  ca_Machine : PySem.W.findIn K (.ref C_Machine) "__class__" = some (some (.builtin "object.__class__"))
  cg_Machine : PySem.W.specialIn K (.builtin "object.__class__") "__get__" = some (some (.builtin "getset_descriptor.__get__"))
  ct_Machine : PySem.W.takesIn K (.builtin "object.__class__") = some true
  ne_Machine : PySem.W.findIn K (.ref C_Machine) "__ne__" = some (some (.builtin "object.__ne__"))
  tt_Machine : PySem.W.typeIn K (.ref C_Machine) = some (.type "type")
  cr_Machine : ClX.CRead K C_Machine (.type "type")
  cv_Machine_MOST_PLACES : ∃ t, ClX.CVal K C_Machine (.type "type") "MOST_PLACES" (.int 40) (.int 40 t)
  n_Machine_own_letters : NoAttr K C_Machine "own_letters"
  n_Machine_own_rows : NoAttr K C_Machine "own_rows"
  n_Machine_own_kinds : NoAttr K C_Machine "own_kinds"
  k_Machine_MOST_PLACES : ∃ t, Con K C_Machine "MOST_PLACES" (.int 40) (.int 40 t)
  f_Machine_init : Addr
  d_Machine_init : FuncData
  Machine_init : Dm K C_Machine "__init__" "Machine.__init__" s_Machine_init ["self", "letters", "rows", "kinds"] f_Machine_init d_Machine_init
  f_Machine_rows : Addr
  d_Machine_rows : FuncData
  Machine_rows : Dm K C_Machine "rows" "Machine.rows" s_Machine_rows ["self"] f_Machine_rows d_Machine_rows
  f_Machine_kinds : Addr
  d_Machine_kinds : FuncData
  Machine_kinds : Dm K C_Machine "kinds" "Machine.kinds" s_Machine_kinds ["self"] f_Machine_kinds d_Machine_kinds
  f_Machine_goes : Addr
  d_Machine_goes : FuncData
  Machine_goes : Dm K C_Machine "goes" "Machine.goes" s_Machine_goes ["self", "place", "text"] f_Machine_goes d_Machine_goes
  f_Machine_takes : Addr
  d_Machine_takes : FuncData
  Machine_takes : Dm K C_Machine "takes" "Machine.takes" s_Machine_takes ["self", "text"] f_Machine_takes d_Machine_takes
  f_Machine_len : Addr
  d_Machine_len : FuncData
  Machine_len : Dm K C_Machine "__len__" "Machine.__len__" s_Machine_len ["self"] f_Machine_len d_Machine_len
  f_Machine_contains : Addr
  d_Machine_contains : FuncData
  Machine_contains : Dm K C_Machine "__contains__" "Machine.__contains__" s_Machine_contains ["self", "value"] f_Machine_contains d_Machine_contains
  f_Machine_eq : Addr
  d_Machine_eq : FuncData
  Machine_eq : Dm K C_Machine "__eq__" "Machine.__eq__" s_Machine_eq ["self", "other"] f_Machine_eq d_Machine_eq
  f_Machine_repr : Addr
  d_Machine_repr : FuncData
  Machine_repr : Dm K C_Machine "__repr__" "Machine.__repr__" s_Machine_repr ["self"] f_Machine_repr d_Machine_repr
  f_Machine_invert : Addr
  d_Machine_invert : FuncData
  Machine_invert : Dm K C_Machine "__invert__" "Machine.__invert__" s_Machine_invert ["self"] f_Machine_invert d_Machine_invert
  p_Machine_letters : Addr
  f_Machine_letters : Addr
  d_Machine_letters : FuncData
  Machine_letters : Dp1 K C_Machine "letters" "Machine.letters" s_Machine_letters p_Machine_letters f_Machine_letters d_Machine_letters
  C_Sum : Addr
  cl_Sum : Cls K C_Sum
  g_Sum : mg "Sum" = some (.ref C_Sum)
  mk_Sum : PySem.W.makesIn K C_Sum = true
  kp_Sum : PySem.W.keepIn K (.ref C_Sum) = true
  ca_Sum : PySem.W.findIn K (.ref C_Sum) "__class__" = some (some (.builtin "object.__class__"))
  cg_Sum : PySem.W.specialIn K (.builtin "object.__class__") "__get__" = some (some (.builtin "getset_descriptor.__get__"))
  ct_Sum : PySem.W.takesIn K (.builtin "object.__class__") = some true
  ne_Sum : PySem.W.findIn K (.ref C_Sum) "__ne__" = some (some (.builtin "object.__ne__"))
  tt_Sum : PySem.W.typeIn K (.ref C_Sum) = some (.type "type")
  cr_Sum : ClX.CRead K C_Sum (.type "type")
  C_MachineReader : Addr
  cl_MachineReader : Cls K C_MachineReader
  g_MachineReader : mg "MachineReader" = some (.ref C_MachineReader)
  mk_MachineReader : PySem.W.makesIn K C_MachineReader = true
  kp_MachineReader : PySem.W.keepIn K (.ref C_MachineReader) = true
  ca_MachineReader : PySem.W.findIn K (.ref C_MachineReader) "__class__" = some (some (.builtin "object.__class__"))
  cg_MachineReader : PySem.W.specialIn K (.builtin "object.__class__") "__get__" = some (some (.builtin "getset_descriptor.__get__"))
  ct_MachineReader : PySem.W.takesIn K (.builtin "object.__class__") = some true
  ne_MachineReader : PySem.W.findIn K (.ref C_MachineReader) "__ne__" = some (some (.builtin "object.__ne__"))
  tt_MachineReader : PySem.W.typeIn K (.ref C_MachineReader) = some (.type "type")
  cr_MachineReader : ClX.CRead K C_MachineReader (.type "type")
  n_MachineReader_own_letters : NoAttr K C_MachineReader "own_letters"
  n_MachineReader_own_rows : NoAttr K C_MachineReader "own_rows"
  n_MachineReader_own_kinds : NoAttr K C_MachineReader "own_kinds"
  f_MachineReader_init : Addr
  d_MachineReader_init : FuncData
  MachineReader_init : Dm K C_MachineReader "__init__" "MachineReader.__init__" s_MachineReader_init ["self"] f_MachineReader_init d_MachineReader_init
  f_MachineReader_take : Addr
  d_MachineReader_take : FuncData
  MachineReader_take : Dm K C_MachineReader "take" "MachineReader.take" s_MachineReader_take ["self", "line"] f_MachineReader_take d_MachineReader_take
  f_MachineReader_take_place : Addr
  d_MachineReader_take_place : FuncData
  MachineReader_take_place : Dm K C_MachineReader "take_place" "MachineReader.take_place" s_MachineReader_take_place ["self", "words"] f_MachineReader_take_place d_MachineReader_take_place
  f_MachineReader_is_lacking : Addr
  d_MachineReader_is_lacking : FuncData
  MachineReader_is_lacking : Dm K C_MachineReader "is_lacking" "MachineReader.is_lacking" s_MachineReader_is_lacking ["self"] f_MachineReader_is_lacking d_MachineReader_is_lacking
  f_MachineReader_made : Addr
  d_MachineReader_made : FuncData
  MachineReader_made : Dm K C_MachineReader "made" "MachineReader.made" s_MachineReader_made ["self"] f_MachineReader_made d_MachineReader_made
  C_SumReader : Addr
  cl_SumReader : Cls K C_SumReader
  g_SumReader : mg "SumReader" = some (.ref C_SumReader)
  mk_SumReader : PySem.W.makesIn K C_SumReader = true
  kp_SumReader : PySem.W.keepIn K (.ref C_SumReader) = true
  ca_SumReader : PySem.W.findIn K (.ref C_SumReader) "__class__" = some (some (.builtin "object.__class__"))
  cg_SumReader : PySem.W.specialIn K (.builtin "object.__class__") "__get__" = some (some (.builtin "getset_descriptor.__get__"))
  ct_SumReader : PySem.W.takesIn K (.builtin "object.__class__") = some true
  ne_SumReader : PySem.W.findIn K (.ref C_SumReader) "__ne__" = some (some (.builtin "object.__ne__"))
  tt_SumReader : PySem.W.typeIn K (.ref C_SumReader) = some (.type "type")
  cr_SumReader : ClX.CRead K C_SumReader (.type "type")
  n_SumReader_own_letters : NoAttr K C_SumReader "own_letters"
  n_SumReader_own_told : NoAttr K C_SumReader "own_told"
  f_SumReader_init : Addr
  d_SumReader_init : FuncData
  SumReader_init : Dm K C_SumReader "__init__" "SumReader.__init__" s_SumReader_init ["self"] f_SumReader_init d_SumReader_init
  f_SumReader_take : Addr
  d_SumReader_take : FuncData
  SumReader_take : Dm K C_SumReader "take" "SumReader.take" s_SumReader_take ["self", "line"] f_SumReader_take d_SumReader_take
  f_SumReader_is_lacking : Addr
  d_SumReader_is_lacking : FuncData
  SumReader_is_lacking : Dm K C_SumReader "is_lacking" "SumReader.is_lacking" s_SumReader_is_lacking ["self"] f_SumReader_is_lacking d_SumReader_is_lacking
  f_SumReader_made : Addr
  d_SumReader_made : FuncData
  SumReader_made : Dm K C_SumReader "made" "SumReader.made" s_SumReader_made ["self"] f_SumReader_made d_SumReader_made
  xc_InvalidRow : ExcC K C_InvalidRow
  C_PartsError : Addr
  g_PartsError : mg "PartsError" = some (.ref C_PartsError)
  is_InvalidRow_PartsError : PySem.W.kitOne K (.ref C_InvalidRow) (.ref C_PartsError) = some true
  is_InvalidRow_ValueError : PySem.W.kitOne K (.ref C_InvalidRow) (.type "ValueError") = some true
  b_ValueError : mg "ValueError" = none
  b_abs : mg "abs" = none
  b_all : mg "all" = none
  b_any : mg "any" = none
  b_bool : mg "bool" = none
  b_dict : mg "dict" = none
  b_divmod : mg "divmod" = none
  b_enumerate : mg "enumerate" = none
  b_int : mg "int" = none
  b_isinstance : mg "isinstance" = none
  b_len : mg "len" = none
  b_list : mg "list" = none
  b_max : mg "max" = none
  b_min : mg "min" = none
  b_ord : mg "ord" = none
  b_property : mg "property" = none
  b_range : mg "range" = none
  b_repr : mg "repr" = none
  b_set : mg "set" = none
  b_sorted : mg "sorted" = none
  b_str : mg "str" = none
  b_super : mg "super" = none
  b_tuple : mg "tuple" = none
  b_zip : mg "zip" = none
  c_SMALL_basics : ∃ t, mg "SMALL_basics" = some (.str "abcdefghijklmnopqrstuvwxyz" t)
  c_MOST_LETTERS : ∃ t, mg "MOST_LETTERS" = some (.int 3 t)
  c_SMALL_products : ∃ t, mg "SMALL_products" = some (.str "abcdefghijklmnopqrstuvwxyz" t)
  c_STAR : ∃ t, mg "STAR" = some (.str "*" t)
  c_MOST_IN_STAR : ∃ t, mg "MOST_IN_STAR" = some (.int 3 t)
  c_MOST_PIECES : ∃ t, mg "MOST_PIECES" = some (.int 12 t)
  c_LOST : ∃ t, mg "LOST" = some (.int (-1) t)
  c_MOST_PARTS_LETTERS : ∃ t, mg "MOST_PARTS_LETTERS" = some (.int 60 t)
  c_MOST_TEXTS : ∃ t, mg "MOST_TEXTS" = some (.int 8 t)
  c_MOST_WITHOUT_LETTERS : ∃ t, mg "MOST_WITHOUT_LETTERS" = some (.int 8 t)
  c_DIGITS : ∃ t, mg "DIGITS" = some (.str "0123456789" t)
  A_KINDS : Addr
  g_KINDS : mg "KINDS" = some (.ref A_KINDS)
end Lw
namespace M14
def row (R : List (List Nat)) (p : Nat) : List Nat := R.getD p []
def addG (f : List Nat) (g : Nat) : List Nat := if g ∈ f then f else f ++ [g]
def metI (R : List (List Nat)) (s : Nat) : Nat → List Nat
  | 0 => [s]
  | n + 1 => match (metI R s n)[n]? with
    | some p => (row R p).foldl addG (metI R s n)
    | none => metI R s n
def met (R : List (List Nat)) (s : Nat) : List Nat := metI R s R.length
theorem row_get {R : List (List Nat)} {p : Nat} {r : List Nat} (h : R[p]? = some r) : row R p = r := by unfold row; rw [List.getD_eq_getElem?_getD, h]; rfl
theorem row_mem {R : List (List Nat)} {p : Nat} (h : p < R.length) : row R p ∈ R := by
  have e : row R p = R[p] := row_get (List.getElem?_eq_getElem h)
  rw [e]; exact List.getElem_mem h
theorem row_at {R : List (List Nat)} {p : Nat} (h : p < R.length) : R[p]? = some (row R p) := by
  rw [row_get (List.getElem?_eq_getElem h)]; exact List.getElem?_eq_getElem h
theorem addG_mem {f : List Nat} {g x : Nat} : x ∈ addG f g ↔ x ∈ f ∨ x = g := by
  unfold addG
  split
  · rename_i h
    exact ⟨.inl, fun z => z.elim id fun e => e ▸ h⟩
  · rw [List.mem_append, List.mem_singleton]
theorem addG_nodup {f : List Nat} {g : Nat} (h : f.Nodup) : (addG f g).Nodup := by
  unfold addG
  split
  · exact h
  · rename_i hn
    rw [List.nodup_append]
    refine ⟨h, (by simp), fun a ha b hb e => ?_⟩
    rw [List.mem_singleton] at hb
    exact hn (hb ▸ e ▸ ha)
theorem addG_pre (f : List Nat) (g : Nat) : f <+: addG f g := by
  unfold addG
  split
  · exact List.prefix_refl _
  · exact List.prefix_append _ _
theorem fold_mem {x : Nat} : ∀ {l f : List Nat}, x ∈ l.foldl addG f ↔ x ∈ f ∨ x ∈ l
  | [], f => by simp
  | a :: l, f => by
    rw [List.foldl_cons, fold_mem, addG_mem, List.mem_cons]
    constructor
    · rintro ((h | h) | h)
      · exact .inl h
      · exact .inr (.inl h)
      · exact .inr (.inr h)
    · rintro (h | h | h)
      · exact .inl (.inl h)
      · exact .inl (.inr h)
      · exact .inr h
theorem fold_nodup : ∀ {l f : List Nat}, f.Nodup → (l.foldl addG f).Nodup
  | [], _, h => h
  | a :: l, f, h => fold_nodup (l := l) (addG_nodup h)
theorem fold_pre : ∀ (l f : List Nat), f <+: l.foldl addG f
  | [], f => List.prefix_refl _
  | a :: l, f => (addG_pre f a).trans (fold_pre l _)
theorem metI_succ {R : List (List Nat)} {s n p : Nat} (h : (metI R s n)[n]? = some p) : metI R s (n + 1) = (row R p).foldl addG (metI R s n) := by
  show (match (metI R s n)[n]? with | some p => _ | none => _) = _
  rw [h]
theorem metI_stay {R : List (List Nat)} {s n : Nat} (h : (metI R s n).length ≤ n) : metI R s (n + 1) = metI R s n := by
  show (match (metI R s n)[n]? with | some p => _ | none => _) = _
  rw [List.getElem?_eq_none h]
theorem metI_pre1 (R : List (List Nat)) (s n : Nat) : metI R s n <+: metI R s (n + 1) := by
  cases h : (metI R s n)[n]? with
  | none => rw [metI_stay (List.getElem?_eq_none_iff.mp h)]; exact List.prefix_refl _
  | some p => rw [metI_succ h]; exact fold_pre _ _
theorem metI_pre (R : List (List Nat)) (s n : Nat) : ∀ k, metI R s n <+: metI R s (n + k)
  | 0 => List.prefix_refl _
  | k + 1 => (metI_pre R s n k).trans (metI_pre1 R s (n + k))
theorem metI_keep {R : List (List Nat)} {s n : Nat} (h : (metI R s n).length ≤ n) : ∀ k, metI R s (n + k) = metI R s n
  | 0 => rfl
  | k + 1 => by
    have e := metI_keep h k
    rw [← Nat.add_assoc, metI_stay (by rw [e]; omega), e]
theorem metI_uniq {R : List (List Nat)} {s a b : Nat} (ha : (metI R s a).length ≤ a) (hb : (metI R s b).length ≤ b) : metI R s a = metI R s b := by
  rcases Nat.le_total a b with h | h
  · obtain ⟨k, rfl⟩ := Nat.exists_eq_add_of_le h
    exact (metI_keep ha k).symm
  · obtain ⟨k, rfl⟩ := Nat.exists_eq_add_of_le h
    exact metI_keep hb k
theorem metI_nodup (R : List (List Nat)) (s : Nat) : ∀ n, (metI R s n).Nodup
  | 0 => by show [s].Nodup; simp
  | n + 1 => by
    cases h : (metI R s n)[n]? with
    | none => rw [metI_stay (List.getElem?_eq_none_iff.mp h)]; exact metI_nodup R s n
    | some p => rw [metI_succ h]; exact fold_nodup (metI_nodup R s n)
theorem metI_in {R : List (List Nat)} {s : Nat} {S : Nat → Prop} (h0 : S s) (hc : ∀ p, S p → ∀ g ∈ row R p, S g) : ∀ n x, x ∈ metI R s n → S x
  | 0, x, hx => by rw [List.mem_singleton.mp hx]; exact h0
  | n + 1, x, hx => by
    cases h : (metI R s n)[n]? with
    | none => rw [metI_stay (List.getElem?_eq_none_iff.mp h)] at hx; exact metI_in h0 hc n x hx
    | some p =>
      rw [metI_succ h] at hx
      rcases fold_mem.mp hx with hx | hx
      · exact metI_in h0 hc n x hx
      · exact hc p (metI_in h0 hc n p (List.mem_of_getElem? h)) x hx
theorem nodup_len : ∀ (n : Nat) (l : List Nat), l.Nodup → (∀ x ∈ l, x < n) → l.length ≤ n
  | 0, l, _, h => by
    cases l with
    | nil => exact Nat.le_refl _
    | cons a l => exact absurd (h a List.mem_cons_self) (Nat.not_lt_zero _)
  | n + 1, l, hd, h => by
    by_cases hm : n ∈ l
    · have h1 := nodup_len n (l.erase n) (hd.erase n) fun x hx => by
        have h2 := (List.Nodup.mem_erase_iff hd).mp hx
        have := h x h2.2
        have := h2.1
        omega
      rw [List.length_erase_of_mem hm] at h1
      omega
    · have h1 := nodup_len n l hd fun x hx => by
        have := h x hx
        have : x ≠ n := fun e => hm (e ▸ hx)
        omega
      omega
/-- rows in range -/
def Val (R : List (List Nat)) : Prop := ∀ p, p < R.length → ∀ g ∈ row R p, g < R.length
theorem metI_lt {R : List (List Nat)} {s : Nat} (v : Val R) (hs : s < R.length) (n x : Nat) (h : x ∈ metI R s n) : x < R.length := metI_in (S := fun x => x < R.length) hs v n x h
theorem metI_len {R : List (List Nat)} {s : Nat} (v : Val R) (hs : s < R.length) (n : Nat) : (metI R s n).length ≤ R.length := nodup_len _ _ (metI_nodup R s n) (metI_lt v hs n)
theorem met_of {R : List (List Nat)} {s n : Nat} (v : Val R) (hs : s < R.length) (h : (metI R s n).length ≤ n) : metI R s n = met R s := metI_uniq h (metI_len v hs _)
theorem met_nodup (R : List (List Nat)) (s : Nat) : (met R s).Nodup := metI_nodup _ _ _
theorem met_lt {R : List (List Nat)} {s x : Nat} (v : Val R) (hs : s < R.length) (h : x ∈ met R s) : x < R.length := metI_lt v hs _ x h
theorem met_len {R : List (List Nat)} {s : Nat} (v : Val R) (hs : s < R.length) : (met R s).length ≤ R.length := metI_len v hs _
theorem metI_head (R : List (List Nat)) (s n : Nat) : (metI R s n)[0]? = some s := by
  have h := metI_pre R s 0 n
  rw [Nat.zero_add] at h
  obtain ⟨t, e⟩ := h
  rw [← e]
  rfl
theorem met_head (R : List (List Nat)) (s : Nat) : (met R s)[0]? = some s := metI_head _ _ _
theorem met_closed {R : List (List Nat)} {s p g : Nat} (v : Val R) (hs : s < R.length) (hp : p ∈ met R s) (hg : g ∈ row R p) : g ∈ met R s := by
  obtain ⟨i, hi⟩ := List.mem_iff_getElem?.mp hp
  have hl := (List.getElem?_eq_some_iff.mp hi).1
  have hl2 := met_len v hs
  have hlt : i < (metI R s i).length := by
    rcases Nat.lt_or_ge i (metI R s i).length with h | h
    · exact h
    · rw [← met_of v hs h] at hl
      exact absurd hl (Nat.not_lt.mpr h)
  obtain ⟨k, hk⟩ := Nat.exists_eq_add_of_le (show i + 1 ≤ R.length by omega)
  have hpre := metI_pre R s i (1 + k)
  have e1 : (metI R s i)[i]? = some p := by
    rw [← hi]
    have e : i + (1 + k) = R.length := by omega
    rw [e] at hpre
    obtain ⟨t, e2⟩ := hpre
    show _ = (metI R s R.length)[i]?
    rw [← e2, List.getElem?_append_left hlt]
  have h2 : g ∈ metI R s (i + 1) := by
    rw [metI_succ e1]
    exact fold_mem.mpr (.inr hg)
  have h3 := metI_pre R s (i + 1) k
  rw [← hk] at h3
  exact h3.subset h2
def ren (od : List Nat) (R : List (List Nat)) : List (List Nat) := od.map fun p => (row R p).map fun g => od.idxOf g
theorem idx_get {od : List Nat} {x : Nat} (h : x ∈ od) : od[od.idxOf x]? = some x := by
  have h1 := List.idxOf_lt_length_of_mem h
  rw [List.getElem?_eq_getElem h1, List.getElem_idxOf h1]
theorem idx_inj {od : List Nat} {x y : Nat} (hx : x ∈ od) (hy : y ∈ od) (e : od.idxOf x = od.idxOf y) : x = y := by
  have h1 := idx_get hx
  rw [e, idx_get hy] at h1
  exact (Option.some.inj h1).symm
theorem idx_at {od : List Nat} (hd : od.Nodup) {i x : Nat} (h : od[i]? = some x) : od.idxOf x = i := by
  obtain ⟨hi, e⟩ := List.getElem?_eq_some_iff.mp h
  have hm : x ∈ od := List.mem_of_getElem? h
  have h1 := List.idxOf_lt_length_of_mem hm
  have h2 : od[od.idxOf x] = x := List.getElem_idxOf h1
  rcases Nat.lt_trichotomy (od.idxOf x) i with z | z | z
  · exact absurd (h2.trans e.symm) (List.pairwise_iff_getElem.mp hd _ _ h1 hi z)
  · exact z
  · exact absurd (e.trans h2.symm) (List.pairwise_iff_getElem.mp hd _ _ hi h1 z)
theorem ren_row {od : List Nat} {R : List (List Nat)} {p : Nat} (h : p ∈ od) : row (ren od R) (od.idxOf p) = (row R p).map fun g => od.idxOf g := by
  refine row_get ?_
  unfold ren
  rw [List.getElem?_map, idx_get h]
  rfl
theorem addG_map {od : List Nat} {f : List Nat} {g : Nat} (hf : ∀ x ∈ f, x ∈ od) (hg : g ∈ od) : addG (f.map fun g => od.idxOf g) (od.idxOf g) = (addG f g).map fun g => od.idxOf g := by
  unfold addG
  by_cases h : g ∈ f
  · rw [if_pos h, if_pos (List.mem_map.mpr ⟨g, h, rfl⟩)]
  · rw [if_neg h, if_neg fun z => ?_, List.map_append]
    · rfl
    · obtain ⟨x, hx, e⟩ := List.mem_map.mp z
      exact h (idx_inj (hf x hx) hg e ▸ hx)
theorem fold_map {od : List Nat} : ∀ {l f : List Nat}, (∀ x ∈ f, x ∈ od) → (∀ x ∈ l, x ∈ od) → (l.map fun g => od.idxOf g).foldl addG (f.map fun g => od.idxOf g) = (l.foldl addG f).map fun g => od.idxOf g
  | [], f, _, _ => rfl
  | a :: l, f, hf, hl => by
    rw [List.map_cons, List.foldl_cons, List.foldl_cons, addG_map hf (hl a List.mem_cons_self)]
    exact fold_map (fun x hx => (addG_mem.mp hx).elim (hf x) fun e => e ▸ hl a List.mem_cons_self) fun x hx => hl x (List.mem_cons_of_mem _ hx)
theorem ren_metI {od : List Nat} {R : List (List Nat)} {s : Nat} (hs : s ∈ od) (hc : ∀ p ∈ od, ∀ g ∈ row R p, g ∈ od) : ∀ n, metI (ren od R) (od.idxOf s) n = (metI R s n).map fun g => od.idxOf g
  | 0 => rfl
  | n + 1 => by
    have ih := ren_metI hs hc n
    have hin := metI_in (S := fun x => x ∈ od) hs hc n
    cases h : (metI R s n)[n]? with
    | none =>
      have hl := List.getElem?_eq_none_iff.mp h
      rw [metI_stay hl, metI_stay (by rw [ih, List.length_map]; exact hl), ih]
    | some p =>
      have hp := hin p (List.mem_of_getElem? h)
      rw [metI_succ h, metI_succ (p := od.idxOf p) (by rw [ih, List.getElem?_map, h]; rfl), ih, ren_row hp, fold_map hin (hc p hp)]
theorem ren_len (od : List Nat) (R : List (List Nat)) : (ren od R).length = od.length := by unfold ren; rw [List.length_map]
theorem ren_val {od : List Nat} {R : List (List Nat)} (hd : od.Nodup) (hc : ∀ p ∈ od, ∀ g ∈ row R p, g ∈ od) : Val (ren od R) := by
  intro i hi g hg
  rw [ren_len] at hi ⊢
  have e : od.idxOf od[i] = i := idx_at hd (List.getElem?_eq_getElem hi)
  rw [← e, ren_row (List.getElem_mem hi)] at hg
  obtain ⟨x, hx, rfl⟩ := List.mem_map.mp hg
  exact List.idxOf_lt_length_of_mem (hc _ (List.getElem_mem hi) x hx)
theorem ren_met {od : List Nat} {R : List (List Nat)} {s : Nat} (hd : od.Nodup) (hs : s ∈ od) (hc : ∀ p ∈ od, ∀ g ∈ row R p, g ∈ od) (v : Val R) (hs2 : s < R.length) : met (ren od R) (od.idxOf s) = (met R s).map fun g => od.idxOf g := by
  have hv := ren_val hd hc
  have hi : od.idxOf s < (ren od R).length := by rw [ren_len]; exact List.idxOf_lt_length_of_mem hs
  have h1 : (metI (ren od R) (od.idxOf s) R.length).length ≤ R.length := by
    rw [ren_metI hs hc, List.length_map]; exact metI_len v hs2 _
  rw [← met_of hv hi h1, ren_metI hs hc]
  rfl
/-- a sheet of a machine with n letters -/
structure Sht (n : Nat) (R : List (List Nat)) (k : List Bool) : Prop where
  ne : 0 < R.length
  few : R.length ≤ 40
  len : ∀ r ∈ R, r.length = n
  val : Val R
  kin : k.length = R.length
/-- .. of which all places are come to -/
structure Good (n : Nat) (R : List (List Nat)) (k : List Bool) : Prop extends Sht n R k where
  all : ∀ p, p < R.length → p ∈ met R 0
def kAt (k : List Bool) (p : Nat) : Bool := k.getD p false
/-- numbered in the sequence od -/
theorem good_ren {n : Nat} {R : List (List Nat)} {s : Nat} {od : List Nat} {k : List Bool} (v : Val R) (few : R.length ≤ 40) (len : ∀ r ∈ R, r.length = n) (hs : s < R.length) (hp : od.Perm (met R s)) (h0 : od[0]? = some s) (hk : k.length = od.length) : Good n (ren od R) k := by
  have hd : od.Nodup := hp.nodup_iff.mpr (met_nodup R s)
  have hc : ∀ p ∈ od, ∀ g ∈ row R p, g ∈ od := fun p h g hg => hp.mem_iff.mpr (met_closed v hs (hp.mem_iff.mp h) hg)
  have hs1 : s ∈ od := List.mem_of_getElem? h0
  refine ⟨⟨?_, ?_, ?_, ren_val hd hc, by rw [ren_len]; exact hk⟩, fun p h => ?_⟩
  · rw [ren_len]; exact List.length_pos_iff.mpr fun e => by rw [e] at h0; cases h0
  · rw [ren_len, hp.length_eq]; exact Nat.le_trans (met_len v hs) few
  · intro r hr
    obtain ⟨p, h1, rfl⟩ := List.mem_map.mp hr
    rw [List.length_map]
    exact len _ (row_mem (met_lt v hs (hp.mem_iff.mp h1)))
  · have e := ren_met hd hs1 hc v hs
    rw [idx_at hd h0] at e
    rw [ren_len] at h
    rw [e, List.mem_map]
    exact ⟨od[p], hp.mem_iff.mp (List.getElem_mem h), idx_at hd (List.getElem?_eq_getElem h)⟩
def addF (t : List Nat) (L : List (Nat × List Nat)) (cg : Nat × Nat) : List (Nat × List Nat) := if cg.2 ∈ L.map (·.1) then L else L ++ [(cg.2, t ++ [cg.1])]
def fstI (sg : List Nat) (R : List (List Nat)) : Nat → List (Nat × List Nat)
  | 0 => [(0, [])]
  | n + 1 => match (fstI sg R n)[n]? with
    | some q => (sg.zip (row R q.1)).foldl (addF q.2) (fstI sg R n)
    | none => fstI sg R n
def fst (sg : List Nat) (R : List (List Nat)) : List (Nat × List Nat) := fstI sg R R.length
def led (sg : List Nat) (R : List (List Nat)) (p : Nat) (t : List Nat) : Nat := t.foldl (fun p c => (row R p).getD (sg.idxOf c) 0) p
theorem led_step {sg : List Nat} {R : List (List Nat)} {k : List Bool} (h : Sht sg.length R k) {p c : Nat} (hp : p < R.length) (hc : c ∈ sg) : ∃ g, (row R p)[sg.idxOf c]? = some g ∧ g < R.length ∧ (row R p).getD (sg.idxOf c) 0 = g := by
  have hl := h.len _ (row_mem hp)
  have hi : sg.idxOf c < (row R p).length := by rw [hl]; exact List.idxOf_lt_length_of_mem hc
  refine ⟨(row R p)[sg.idxOf c], List.getElem?_eq_getElem hi, h.val p hp _ (List.getElem_mem hi), ?_⟩
  rw [List.getD_eq_getElem?_getD, List.getElem?_eq_getElem hi]
  rfl
theorem led_lt {sg : List Nat} {R : List (List Nat)} {k : List Bool} (h : Sht sg.length R k) : ∀ {t : List Nat} {p : Nat}, p < R.length → (∀ c ∈ t, c ∈ sg) → led sg R p t < R.length
  | [], p, hp, _ => hp
  | c :: t, p, hp, hc => by
    obtain ⟨g, _, h2, h3⟩ := led_step h hp (hc c List.mem_cons_self)
    show led sg R ((row R p).getD (sg.idxOf c) 0) t < _
    rw [h3]
    exact led_lt h h2 fun x hx => hc x (List.mem_cons_of_mem _ hx)
theorem led_snoc (sg : List Nat) (R : List (List Nat)) (p : Nat) (t : List Nat) (c : Nat) : led sg R p (t ++ [c]) = (row R (led sg R p t)).getD (sg.idxOf c) 0 := by
  unfold led; rw [List.foldl_append]; rfl
end M14
namespace PySem.SeqAt
open AutoSeq1 (wpAny_loadPart')
open MeetsSeq
theorem dict_eq_declines_int (l : Addr) (o : Obj) (es : Array DictEntry) (n : Nat) (ho1 : o.cls = .type "dict") (ho2 : o.data = .dict es n) (b : Int) (u : Tok) :
    Meets (Builtin.«dict.__eq__» ⟨[.ref l, .int b u], []⟩) (fun _ R s => s.heap.get? l = some o ∧ R (.ok (.ret .notImplemented)) s) :=
  .of_wp fun prog w A R s h => by
    obtain ⟨hp, g, d, tk, os⟩ := s; obtain ⟨hl, h⟩ := h
    have f1 := F.sub_int_dict
    have f2 := F.sub_dict_dict
    obtain ⟨oc, od, odt, osl⟩ := o
    simp only at ho1 ho2
    subst ho1 ho2
    wp_walk using wpAny_loadPart' hl, wpAny_load hl; exact ⟨_, rfl, h⟩
theorem int_eq_declines_dict (b : Int) (u : Tok) (l : Addr) (o : Obj) (es : Array DictEntry) (n : Nat) (ho1 : o.cls = .type "dict") (ho2 : o.data = .dict es n) :
    Meets (Builtin.«int.__eq__» ⟨[.int b u, .ref l], []⟩) (fun _ R s => s.heap.get? l = some o ∧ R (.ok (.ret .notImplemented)) s) :=
  .of_wp fun prog w A R s h => by
    obtain ⟨hp, g, d, tk, os⟩ := s; obtain ⟨hl, h⟩ := h
    obtain ⟨oc, od, odt, osl⟩ := o
    simp only at ho1 ho2
    subst ho1 ho2
    wp_walk using wpAny_loadPart' hl, wpAny_load hl; exact ⟨_, rfl, h⟩
section
variable {A : Around} {s : Shared}
theorem RcAt.int_dict {l : Addr} {o : Obj} {es : Array DictEntry} {n : Nat} (b : Int) (u : Tok) (ho : s.heap.get? l = some o) (ho1 : o.cls = .type "dict") (ho2 : o.data = .dict es n) (hu : A.units < cLine) : RcAt A s (.int b u) (.ref l) false := fun prog w E Q h => by
  exact rc_eq_decline_or (k := false) (typeIs_int s b u) ⟨_, ho, ho1⟩ (by decide) F.sub_dict_int F.slot_int_eq F.slot_dict_eq_refl
    (fun _ hq => call_meets F.slot_int_eq (typeIs_int s b u) F.entry_int_eq (F.args_int_eq_2 _ _) (int_eq_declines_dict b u l o es n ho1 ho2) ⟨ho, hq⟩)
    (fun _ hq => call_meets F.slot_dict_eq_refl ⟨_, ho, ho1⟩ F.entry_dict_eq (F.args_dict_eq_2 _ _) (dict_eq_declines_int l o es n ho1 ho2 b u) ⟨ho, hq⟩)
    (fun _ hq => wpAny_of_eq (rfl : isSame (.int b u) (.ref l) = pure false) hq) (.inr hu) h
theorem EqAt.int_dict {l : Addr} {o : Obj} {es : Array DictEntry} {n : Nat} (b : Int) (u : Tok) (ho : s.heap.get? l = some o) (ho1 : o.cls = .type "dict") (ho2 : o.data = .dict es n) (hu : A.units < cLine) : EqAt A s (.int b u) (.ref l) false := fun prog w E Q h => by
  unfold eqBool
  refine wpAny_holding ?_
  refine wpAny_ite_split (fun hab => absurd (eq_of_beq hab) nofun) (fun _ => ?_)
  exact wpAny_bind (RcAt.int_dict b u ho ho1 ho2 hu prog w E _ (wpAny_truthy_bool h))
end
end PySem.SeqAt
namespace L3
open PySem PySem.Spec PyProof.Rows L2
/-- a number and a value of any kind are the same -/
def intEqD (a : Int) : PyData → Bool
  | .int b => a == b
  | .bool b => a == (if b then 1 else 0)
  | _ => false
def inInts (d : PyData) (l : List Int) : Bool := l.any fun a => intEqD a d
section
variable {X : Cx} {pins : List (Addr × Obj)} {σ : L2.St} {H : Hp} {s : Shared}
theorem eqAt_intD (I : L2.Inv X pins σ H s) (hu : X.A.units + 64 < cLine) {v : V} {d : PyData} (h : DpD X.K H v d) {u : Value} (r : RelV v u) {A : Around} (hA : A.units ≤ X.A.units + 4) (a : Int) (t : Tok) : SeqAt.EqAt A s (.int a t) u (intEqD a d) := by
  cases h with
  | data h =>
    cases h with
    | non => cases r; exact SeqAt.EqAt.int_none a t
    | bl b => cases r; exact SeqAt.EqAt.int_bool a t b
    | int i => obtain ⟨t', rfl⟩ := r; exact SeqAt.EqAt.int_int a t i t'
    | str x => obtain ⟨t', rfl⟩ := r; exact SeqAt.EqAt.int_str a t x t'
    | lst hq _ =>
      cases r
      obtain ⟨its, _, pl, _⟩ := I.list hq
      exact SeqAt.EqAt.int_list a t pl.isList (by omega)
    | tup hq _ =>
      cases r
      obtain ⟨its, _, pl, _⟩ := I.tuple hq
      exact SeqAt.EqAt.int_tuple a t pl (by omega)
  | lst hq _ =>
    cases r
    obtain ⟨its, _, pl, _⟩ := I.list hq
    exact SeqAt.EqAt.int_list a t pl.isList (by omega)
  | tup hq _ =>
    cases r
    obtain ⟨its, _, pl, _⟩ := I.tuple hq
    exact SeqAt.EqAt.int_tuple a t pl (by omega)
  | dct ha _ _ =>
    cases r
    obtain ⟨z, sys, vs, rel, o, es, ep, ho, hex, hd, hkeys, hpairs, hnd⟩ := dk_of I.hok ha
    exact SeqAt.EqAt.int_dict a t ho hex.1 hd (by omega)
def eqUI (d : PyData) : Value → Bool
  | .int a _ => intEqD a d
  | _ => false
theorem any_eqUI {d : PyData} : ∀ {l : List Int} {us : List Value}, Vals (l.map V.int) us → us.any (eqUI d) = inInts d l
  | [], _, h => by cases h; rfl
  | a :: l, _, h => by
    cases h with
    | cons r t =>
      obtain ⟨tk, rfl⟩ := r
      have := any_eqUI (d := d) t
      unfold inInts at this ⊢
      rw [List.any_cons, List.any_cons, this]
      rfl
theorem mem_eqUI (I : L2.Inv X pins σ H s) (hu : X.A.units + 64 < cLine) {v : V} {d : PyData} (h : DpD X.K H v d) {u : Value} (r : RelV v u) {A : Around} (hA : A.units ≤ X.A.units + 4) : ∀ {l : List Int} {us : List Value}, Vals (l.map V.int) us → ∀ y ∈ us, SeqAt.EqAt A s y u (eqUI d y)
  | [], _, hv => by cases hv; intro y hy; cases hy
  | a :: l, _, hv => by
    cases hv with
    | cons r1 t =>
      obtain ⟨tk, rfl⟩ := r1
      intro y hy
      rcases List.mem_cons.mp hy with rfl | hy
      · exact eqAt_intD I hu h r hA a tk
      · exact mem_eqUI I hu h r hA t y hy
/-- v in l, l a list or tuple of numbers, v of any kind -/
def rInAny (K : PySem.W.Frag) (neg : Bool) : R2 := fun x y H Q => ∃ (p : Addr) (d : PyData) (l : List Int), y = .ref p ∧ DpD K H x d ∧ (SqL K H p (l.map V.int) ∨ SqT K H p (l.map V.int)) ∧ Q (.bl (if neg then !inInts d l else inInts d l)) H
theorem op_inAny (hu : X.A.units + 64 < cLine) : OpR X (compareOp .In) (rInAny X.K false) := by
  intro pins s σ H x y v u Q I rx ry h
  obtain ⟨p, d, l, rfl, hd, hq, q⟩ := h
  cases ry
  rcases hq with hq | hq
  · obtain ⟨its, r, pl, hz⟩ := I.list hq
    refine SeqAt.in_listAt (eqUI d) pl.isList (fun w hw => mem_eqUI I hu hd rx (by first | exact Nat.le_add_right _ _ | (show X.A.units + 1 ≤ _; omega)) r w (by simpa using hw)) ⟨.bl _, H, I, rfl, ?_⟩
    rw [show its.toArray.any (eqUI d) = its.any (eqUI d) by simp, any_eqUI r]
    exact q
  · obtain ⟨its, r, pl, hz⟩ := I.tuple hq
    refine SeqAt.in_tupleAt (eqUI d) pl (fun w hw => mem_eqUI I hu hd rx (by first | exact Nat.le_add_right _ _ | (show X.A.units + 1 ≤ _; omega)) r w (by simpa using hw)) ⟨.bl _, H, I, rfl, ?_⟩
    rw [show its.toArray.any (eqUI d) = its.any (eqUI d) by simp, any_eqUI r]
    exact q
theorem op_inAnyK {K : PySem.W.Frag} (h : X.K = K) (hu : X.A.units + 64 < cLine) : OpR X (compareOp .In) (rInAny K false) := h ▸ op_inAny hu
end
end L3
namespace Lw
open PySem PySem.Spec PyProof.Rows L3
open L2 hiding del del_same del_ne
/-- letters -/
structure Lets (sg : List Nat) : Prop where
  ne : 0 < sg.length
  few : sg.length ≤ 3
  up : sg.Pairwise (· < ·)
  az : ∀ c ∈ sg, 97 ≤ c ∧ c ≤ 122
theorem small_codes : (("abcdefghijklmnopqrstuvwxyz" : Str)).cps.toList = (List.range 26).map (· + 97) := by decide +kernel
theorem small_mem {c : Nat} (h : 97 ≤ c ∧ c ≤ 122) : c ∈ (("abcdefghijklmnopqrstuvwxyz" : Str)).cps.toList := by
  rw [small_codes]
  exact List.mem_map.mpr ⟨c - 97, List.mem_range.mpr (by omega), by omega⟩
theorem sz {n : Nat} (h : n ≤ 100000) : n ≤ sizeLine := by rw [sizeLine_eq]; omega
theorem ite_f {b : Bool} {p q : Prop} (e : b = false) (h : q) : if b = true then p else q := by rw [e]; exact h
theorem ite_t {b : Bool} {p q : Prop} (e : b = true) (h : p) : if b = true then p else q := by rw [e]; exact h
theorem u64 {k : Nat} {A : Around} (hr : Room k A) : A.units + 64 < cLine := by have := hr.units; omega
/-- rows: a list or a tuple of lists or tuples of numbers -/
def Rw (K : PySem.W.Frag) (H : Hp) (v : V) (R : List (List Nat)) : Prop := ∃ xs, Sq K H v xs ∧ xs.length = R.length ∧ ∀ (i : Nat) (x : V) (r : List Nat), xs[i]? = some x → R[i]? = some r → Sq K H x (nV r)
theorem Rw.same {K : PySem.W.Frag} {H H' : Hp} {v : V} {R : List (List Nat)} (h : Rw K H v R) (s : Same H H') : Rw K H' v R := by
  obtain ⟨xs, a, b, c⟩ := h
  exact ⟨xs, a.same s, b, fun i x r h1 h2 => (c i x r h1 h2).same s⟩
theorem ty_list {K : PySem.W.Frag} {H : Hp} {a : Addr} {xs : List V} (h : SqL K H a xs) : TyX K H (.ref a) (.type "list") := by
  rcases h with (h | ⟨o, h⟩) | ⟨o, its, n, hk, hc, _⟩
  · exact .base (.lst h)
  · exact .base (.frz h)
  · exact .kList hk hc
theorem ty_tuple {K : PySem.W.Frag} {H : Hp} {a : Addr} {xs : List V} (h : SqT K H a xs) : TyX K H (.ref a) (.type "tuple") := by
  rcases h with (h | ⟨o, h⟩) | ⟨o, its, n, hk, hc, _⟩
  · exact .base (.tup h)
  · exact .fTuple h
  · exact .kTuple hk hc
section
variable {P : Program} {w : World} {K : PySem.W.Frag} {mg : Str → Option Value} {base : Heap}
def spIsInteger : Sp := fun vs H Q _ => ∃ n, vs = [.int n] ∧ Q (.bl true) H
theorem ok_is_integer (T : All K mg) : FnOk P w K mg base CX0 1 T.f_is_integer T.d_is_integer ["value"] spIsInteger := by
  refine T.is_integer.F.ok sc_is_integer (fun vs H Q E h => ?_) (fun cdv A outer s H vs Q E hr h => ?_)
  · obtain ⟨n, rfl, _⟩ := h
    rfl
  · obtain ⟨n, rfl, q⟩ := h
    refine ⟨_, pss_one (ps_ret (pe_and (pe_callB call_isi (by rfl) T.b_isinstance boot_isinstance (pa_cons (pv 0) (pa_cons (pe_bltn (v := .ty "int") (by rfl) T.b_int (by decide +kernel) rfl) pa_nil)))
        (pe_one (pe_not (pe_callB call_isi (by rfl) T.b_isinstance boot_isinstance (pa_cons (pv 0) (pa_cons (pe_bltn (v := .ty "bool") (by rfl) T.b_bool (by decide +kernel) rfl) pa_nil))))))), ?_⟩
    refine ⟨_, rfl, _, .ty "int", .type "int", .type "int", true, rfl, .ty _, .base (.int _), kit_ty (by decide +kernel), true, rfl, iteT ?_⟩
    exact ⟨_, rfl, _, .ty "bool", .type "int", .type "bool", false, rfl, .ty _, .base (.int _), kit_ty (by decide +kernel), _, rfl, q⟩
def spIsList (K : PySem.W.Frag) : Sp := fun vs H Q _ => ∃ v xs, vs = [v] ∧ Sq K H v xs ∧ ∀ H', Same H H' → Q (.bl true) H'
theorem ok_is_list (T : All K mg) : FnOk P w K mg base CX0 1 T.f_is_list T.d_is_list ["value"] (spIsList K) := by
  refine T.is_list.F.ok sc_is_list (fun vs H Q E h => ?_) (fun cdv A outer s H vs Q E hr h => ?_)
  · obtain ⟨n, xs, rfl, _⟩ := h
    rfl
  · obtain ⟨v, xs, rfl, hs, q⟩ := h
    refine ⟨_, pss_one (ps_ret (pe_callB call_isiT (by rfl) T.b_isinstance boot_isinstance (pa_cons (pv 0) (pa_cons (pe_tup (pa_cons (pe_bltn (v := .ty "list") (by rfl) T.b_list (by decide +kernel) rfl) (pa_cons (pe_bltn (v := .ty "tuple") (by rfl) T.b_tuple (by decide +kernel) rfl) pa_nil))) pa_nil)))), ?_⟩
    refine ⟨_, rfl, by show 2 ≤ sizeLine; decide, fun t nt => ?_⟩
    obtain ⟨a, rfl, hS⟩ := hs.same (same_upd (o := .tup [.ty "list", .ty "tuple"]) nt)
    rcases hS with h | h
    · exact ⟨_, t, [.ty "list", .ty "tuple"], .type "list", [.type "list", .type "tuple"], true, rfl, upd_same, .cons (.ty _) (.cons (.ty _) .nil), ty_list h, kitAny_cons (b := true) (kit_ty (by decide +kernel)) (fun z => by cases z) (fun _ => rfl), q _ (same_upd nt)⟩
    · exact ⟨_, t, [.ty "list", .ty "tuple"], .type "tuple", [.type "list", .type "tuple"], true, rfl, upd_same, .cons (.ty _) (.cons (.ty _) .nil), ty_tuple h, kitAny_cons (b := false) (kit_ty (by decide +kernel)) (fun _ => kitAny_cons (b := true) (kit_ty (by decide +kernel)) (fun z => by cases z) (fun _ => rfl)) (fun z => by cases z), q _ (same_upd nt)⟩
def spIsText : Sp := fun vs H Q _ => ∃ l, vs = [tx l] ∧ (∀ c ∈ l, 97 ≤ c ∧ c ≤ 122) ∧ l.length ≤ 1000 ∧ ∀ H', Same H H' → Q (.bl true) H'
theorem ok_is_text (T : All K mg) : FnOk P w K mg base CX0 1 T.f_is_text T.d_is_text ["value"] spIsText := by
  refine T.is_text.F.ok sc_is_text (fun vs H Q E h => ?_) (fun cdv A outer s H vs Q E hr h => ?_)
  · obtain ⟨l, rfl, _⟩ := h
    rfl
  · obtain ⟨l, rfl, hl, hz, q⟩ := h
    obtain ⟨ts, hSMALL_basics⟩ := T.c_SMALL_basics
    refine ⟨_, pss_one (ps_ret (pe_and (pe_callB call_isi (by rfl) T.b_isinstance boot_isinstance (pa_cons (pv 0) (pa_cons (pe_bltn (v := .ty "str") (by rfl) T.b_str (by decide +kernel) rfl) pa_nil)))
        (pe_one (pe_callB (cr_all rfl) (by rfl) T.b_all PyProof.Rows.boot_all (pa_cons (pe_lc (own := [("sign", 1)]) (g := gName 1) (tt := tYes) rfl sc_is_text.nd (pi_str (pv 0))
          (blkOk_by (own := [("sign", 1)]) (N := ["value", "sign"]) (sc := defScope s_is_text) (by decide +kernel))
          (fun _ _ _ _ _ => pg_name (i := 1) sc_is_text.nd rfl (by first | exact Or.inl rfl | exact Or.inr rfl)) (fun _ _ _ _ _ => pts_nil)
          (fun _ _ _ _ _ => (pe_cmpR op_in_sign (pv 1) (pe_glob (v := .str "abcdefghijklmnopqrstuvwxyz") rfl hSMALL_basics ⟨_, rfl⟩) (by rfl)))) pa_nil))))), ?_⟩
    refine ⟨tx l, rfl, tx l, .ty "str", .type "str", .type "str", true, rfl, .ty _, .base (.str _), kit_ty (by decide +kernel), true, rfl, iteT ?_⟩
    refine ⟨tx l, rfl, tS l, rfl, fun D nD => ?_⟩
    refine lc_gen walk_tx (Same H) (fun i acc => acc = List.replicate i (.bl true)) (sz (by omega)) (fun i acc e => by rw [e]; simp) rfl (same_upd nD) (fun _ _ h => same_up h nD) (fun _ _ => trivial) (fun i x H2 H3 acc C N hi r hD ha y c n => ?_) (fun H2 xs r hD ha => ?_)
    · obtain ⟨rfl, ch, hc, rfl⟩ := y
      refine ⟨rfl, yes_te ?_⟩
      refine ⟨_, rfl, ch, _, rfl, rfl, ?_⟩
      rw [decide_eq_true (small_mem (hl ch (List.mem_of_getElem? hc)))]
      exact c _ _ r hD (by rw [ha, List.replicate_succ'])
    · refine ⟨D, List.replicate l.length true, rfl, .inl (.inl ?_), ?_⟩
      · rw [hD, ha]
        simp
      · have e : (List.replicate l.length true).all id = true := by simp
        rw [e]
        exact q _ r
theorem sort_lets {sg : List Nat} (up : sg.Pairwise (· < ·)) {L : List (List Nat)} (hp : L.Perm (lets sg)) (hs : L.Pairwise (· < ·)) : L = sg.map fun c => [c] := by
  have h2 : (sg.map fun c => [c]).Pairwise (· < ·) := by
    rw [List.pairwise_map]
    refine up.imp fun h => ?_
    exact List.cons_lt_cons_iff.mpr (.inl h)
  have hn1 : L.Nodup := hs.imp fun h e => by subst e; exact absurd h (List.lt_irrefl _)
  have hn2 : (sg.map fun c => [c]).Nodup := h2.imp fun h e => by subst e; exact absurd h (List.lt_irrefl _)
  have hp2 : L.Perm (sg.map fun c => [c]) := by
    refine (List.perm_ext_iff_of_nodup hn1 hn2).mpr fun x => ?_
    rw [hp.mem_iff, lets_mem, List.mem_map]
    exact ⟨fun ⟨c, h1, h2⟩ => ⟨c, h1, h2.symm⟩, fun ⟨c, h1, h2⟩ => ⟨c, h1, h2.symm⟩⟩
  exact hp2.eq_of_pairwise (fun a b _ _ h1 h2 => absurd (List.lt_trans h1 h2) (List.lt_irrefl _)) hs h2
def spAreLetters : Sp := fun vs H Q _ => ∃ sg, vs = [tx sg] ∧ Lets sg ∧ ∀ H', Same H H' → Q (.bl true) H'
theorem ok_are_letters (T : All K mg) : FnOk P w K mg base CX0 2 T.f_are_letters T.d_are_letters ["value"] spAreLetters := by
  refine T.are_letters.F.ok sc_are_letters (fun vs H Q E h => ?_) (fun cdv A outer s H vs Q E hr h => ?_)
  · obtain ⟨l, rfl, _⟩ := h
    rfl
  · obtain ⟨sg, rfl, hl, q⟩ := h
    obtain ⟨ts, hMOST_LETTERS⟩ := T.c_MOST_LETTERS
    have hz : sg.length ≤ sizeLine := sz (by have := hl.few; omega)
    refine ⟨_, pss_cons (ps_if (PW.pt (pw_or (pt_not (pt_val (pe_call (ok_is_text T) (hr.mono (by decide)) (by rfl) T.is_text.g T.is_text.F.kp T.is_text.b .nil pass0 (pa_cons (pv 0) pa_nil)))) (pw_or1 (pt_not (pt_chain op_le op_le pe_int (pe_callB call_lenT (by rfl) T.b_len PySem.boot_len (pa_cons (pv 0) pa_nil)) (pe_glob (v := .int 3) rfl hMOST_LETTERS ⟨_, rfl⟩)))))) (pss_one ps_never) pss_nil)
      (pss_one (ps_ret (pe_cmpR (op_eqD (u64 hr)) (pe_callTy (call_listT rfl) (by rfl) T.b_list PyProof.Rows.boot_list (pa_cons (pv 0) pa_nil)) (pe_callB (cr_sortSetT rfl) (by rfl) T.b_sorted PyProof.Rows.boot_sorted (pa_cons (pe_callTy (cr_setT rfl) (by rfl) T.b_set (show bootBuiltins "set" = some (.type "set") by decide +kernel) (pa_cons (pv 0) pa_nil)) pa_nil)) (by rfl)))), ?_⟩
    refine ⟨_, rfl, sg, rfl, hl.az, by have := hl.few; omega, fun H1 s1 => ?_⟩
    refine ⟨true, rfl, iteF ?_⟩
    have e1 : decide ((1 : Int) ≤ (sg.length : Int)) = true := decide_eq_true (by have := hl.ne; omega)
    have e2 : decide ((sg.length : Int) ≤ 3) = true := decide_eq_true (by have := hl.few; omega)
    refine ⟨_, rfl, sg, rfl, hz, _, _, rfl, rfl, _, rfl, ?_⟩
    rw [e1]
    refine iteT ⟨_, _, rfl, rfl, true, congrArg V.bl e2, iteF ?_⟩
    refine ⟨_, rfl, sg, rfl, hz, fun p np => ?_⟩
    refine ⟨_, rfl, sg, rfl, by have := hl.few; omega, fun p2 np2 => ?_⟩
    refine ⟨p2, _, rfl, upd_same, fun L p3 hp hs np3 => ?_⟩
    have eL := sort_lets hl.up hp hs
    subst eL
    have s2 := same_up (o := .lst (sg.map fun c => tx [c])) s1 (s1.free np)
    have n1 : p ≠ p2 := fun e => by subst e; rw [upd_same] at np2; cases np2
    have n2 : p ≠ p3 := fun e => by subst e; rw [upd_ne n1, upd_same] at np3; cases np3
    have w : ∀ d ∈ dTx (sg.map fun c => [c]), Wt d 1 0 := fun d hd => by
      unfold dTx at hd
      rw [List.map_map] at hd
      obtain ⟨c, hc, rfl⟩ := List.mem_map.mp hd
      refine Wt.text (fun x hx => ?_) (by simp)
      rw [List.mem_singleton.mp hx]
      have := hl.az c hc
      omega
    have sh := (Wt.list w (Nat.le_refl _)).shaped (by decide)
    refine ⟨.list (dTx (sg.map fun c => [c])), .list (dTx (sg.map fun c => [c])), .lst (xs := (sg.map fun c => [c]).map tx) (.inl (.inl ?_)) (dp_txs _), .lst (xs := (sg.map fun c => [c]).map tx) (.inl (.inl upd_same)) (dp_txs _), sh, sh, ?_⟩
    · rw [upd_ne n2, upd_ne n1, upd_same, List.map_map]
      rfl
    · have e : PyData.eqv (.list (dTx (sg.map fun c => [c]))) (.list (dTx (sg.map fun c => [c]))) = true := by
        show PyData.eqvAll _ _ = true
        unfold dTx
        rw [eqv_map (α := List Nat) _ (fun a b => ?_) _ _]
        · exact decide_eq_true rfl
        · show (tS a == tS b) = _
          by_cases h : a = b
          · subst h; simp
          · rw [decide_eq_false h]; exact beq_eq_false_iff_ne.mpr fun z => h (tS_inj z)
      rw [e]
      refine q _ (same_up (same_up s2 ?_) ?_)
      · exact s2.free np2
      · exact (same_up s2 (s2.free np2)).free np3
def spWantFew : Sp := fun vs H Q _ => ∃ (x : V) (m n : Int), vs = [x, .int m, .int n] ∧ m ≤ n ∧ Q .non H
theorem ok_want_few (T : All K mg) : FnOk P w K mg base CX0 1 T.f_want_few T.d_want_few ["what", "many", "limit"] spWantFew := by
  refine T.want_few.F.ok sc_want_few (fun vs H Q E h => ?_) (fun cdv A outer s H vs Q E hr h => ?_)
  · obtain ⟨x, m, n, rfl, _⟩ := h
    rfl
  · obtain ⟨x, m, n, rfl, hmn, q⟩ := h
    refine ⟨_, pss_one (ps_if (pt_cmpR op_gt (pv 1) (pv 2) (nomark _)) (pss_one ps_never) pss_nil), ?_⟩
    refine ⟨_, rfl, _, rfl, m, n, rfl, rfl, _, rfl, ite2 (fun e => ?_) (fun e => q)⟩
    have := of_decide_eq_true e
    show False
    omega
def spTextOver (K : PySem.W.Frag) : Sp := fun vs H Q _ => ∃ sg v, vs = [tx sg, v] ∧ ((∃ t, v = tx t ∧ t.length ≤ 1000 ∧ ∀ H', Same H H' → Q (.bl (t.all fun c => decide (c ∈ sg))) H') ∨ (∃ ty, TyX K H v (.type ty) ∧ kitB ty "str" = some false ∧ Q (.bl false) H))
theorem ok_is_text_over (T : All K mg) : FnOk P w K mg base CX0 1 T.f_is_text_over T.d_is_text_over ["letters", "value"] (spTextOver K) := by
  refine T.is_text_over.F.ok sc_is_text_over (fun vs H Q E h => ?_) (fun cdv A outer s H vs Q E hr h => ?_)
  · obtain ⟨l, v, rfl, _⟩ := h
    rfl
  · obtain ⟨sg, v, rfl, h⟩ := h
    refine ⟨_, pss_one (ps_ret (pe_and (pe_callB call_isi (by rfl) T.b_isinstance boot_isinstance (pa_cons (pv 1) (pa_cons (pe_bltn (v := .ty "str") (by rfl) T.b_str (by decide +kernel) rfl) pa_nil)))
        (pe_one (pe_callB (cr_all rfl) (by rfl) T.b_all PyProof.Rows.boot_all (pa_cons (pe_lc (own := [("sign", 2)]) (g := gName 2) (tt := tYes) rfl sc_is_text_over.nd (pi_str (pv 1))
          (blkOk_by (own := [("sign", 2)]) (N := ["letters", "value", "sign"]) (sc := defScope s_is_text_over) (by decide +kernel))
          (fun _ _ _ _ _ => pg_name (i := 2) sc_is_text_over.nd rfl (by first | exact Or.inl rfl | exact Or.inr rfl)) (fun _ _ _ _ _ => pts_nil)
          (fun _ _ _ _ _ => (pe_cmpR op_in_sign (pv 2) (pv 0) (by rfl)))) pa_nil))))), ?_⟩
    rcases h with ⟨t, rfl, hz, q⟩ | ⟨ty, hty, hk, q⟩
    · refine ⟨tx t, rfl, tx t, .ty "str", .type "str", .type "str", true, rfl, .ty _, .base (.str _), kit_ty (by decide +kernel), true, rfl, iteT ?_⟩
      refine ⟨tx t, rfl, tS t, rfl, fun D nD => ?_⟩
      refine lc_gen walk_tx (Same H) (fun i acc => acc = ((t.take i).map fun c => decide (c ∈ sg)).map V.bl) (sz (by omega)) (fun i acc e => by rw [e]; simp; omega) rfl (same_upd nD) (fun _ _ h => same_up h nD) (fun _ _ => trivial) (fun i x H2 H3 acc C N hi r hD ha y c n => ?_) (fun H2 xs r hD ha => ?_)
      · obtain ⟨rfl, ch, hc, rfl⟩ := y
        refine ⟨rfl, yes_te ?_⟩
        refine ⟨_, rfl, _, rfl, ch, tS sg, rfl, rfl, ?_⟩
        refine c _ _ r hD ?_
        rw [ha, List.take_add_one, hc]
        simp [tS]
      · subst ha
        rw [List.take_length] at hD
        refine ⟨D, t.map fun c => decide (c ∈ sg), rfl, .inl (.inl hD), ?_⟩
        have e : (t.map fun c => decide (c ∈ sg)).all id = t.all fun c => decide (c ∈ sg) := by rw [List.all_map]; rfl
        rw [e]
        exact q _ r
    · refine ⟨v, rfl, v, .ty "str", .type ty, .type "str", false, rfl, .ty _, hty, kit_ty hk, false, rfl, iteF q⟩
def spIsRow (K : PySem.W.Frag) : Sp := fun vs H Q _ => ∃ (v : V) (r : List Nat) (m : Nat), vs = [v, .int (r.length : Int), .int (m : Int)] ∧ Sq K H v (nV r) ∧ (∀ g ∈ r, g < m) ∧ r.length ≤ 1000 ∧ ∀ H', Same H H' → Q (.bl true) H'
theorem ok_is_row (T : All K mg) : FnOk P w K mg base CX0 2 T.f_is_row T.d_is_row ["value", "size", "many"] (spIsRow K) := by
  refine T.is_row.F.ok sc_is_row (fun vs H Q E h => ?_) (fun cdv A outer s H vs Q E hr h => ?_)
  · obtain ⟨v, r, m, rfl, _⟩ := h
    rfl
  · obtain ⟨v, r, m, rfl, hS, hm, hz, q⟩ := h
    refine ⟨_, pss_cons (ps_if (PW.pt (pw_or (pt_not (pt_val (pe_call (ok_is_list T) (hr.mono (by decide)) (by rfl) T.is_list.g T.is_list.F.kp T.is_list.b .nil pass0 (pa_cons (pv 0) pa_nil)))) (pw_or1 (pt_cmpR op_ne (pe_callB call_len_seq (by rfl) T.b_len PySem.boot_len (pa_cons (pv 0) pa_nil)) (pv 1) (nomark _))))) (pss_one ps_never) pss_nil)
      (pss_one (ps_ret (pe_callB (cr_all rfl) (by rfl) T.b_all PyProof.Rows.boot_all (pa_cons (pe_lc (own := [("goal", 3)]) (g := gName 3) (tt := tYes) rfl sc_is_row.nd (pi_sq (pv 0))
          (blkOk_by (own := [("goal", 3)]) (N := ["value", "size", "many", "goal"]) (sc := defScope s_is_row) (by decide +kernel))
          (fun _ _ _ _ _ => pg_name (i := 3) sc_is_row.nd rfl (by first | exact Or.inl rfl | exact Or.inr rfl)) (fun _ _ _ _ _ => pts_nil)
          (fun _ _ _ _ _ => (pe_and (pe_call (ok_is_integer T) (hr.mono (by decide)) (by rfl) T.is_integer.g T.is_integer.F.kp T.is_integer.b .nil pass0 (pa_cons (pv 3) pa_nil))
        (pe_one (pe_chain op_le op_lt pe_int (pv 3) (pv 2)))))) pa_nil)))), ?_⟩
    refine ⟨_, rfl, v, _, rfl, hS, fun H1 s1 => ?_⟩
    have hS1 := hS.same s1
    obtain ⟨a, rfl, hS1'⟩ := id hS1
    refine ⟨true, rfl, iteF ?_⟩
    refine ⟨_, rfl, a, _, rfl, hS1', _, rfl, rfl, _, rfl, ?_⟩
    rw [nV_len]
    refine ite_f (by simp) ?_
    refine ⟨_, rfl, _, H1, hS1, Same.refl _, fun J G wk hG D nD => ?_⟩
    refine lc_gen wk (Same H1) (fun i acc => acc = List.replicate i (.bl true)) (by rw [nV_len]; exact sz (by omega)) (fun i acc e => by rw [e]; simp) rfl (same_upd nD) (fun _ _ h => same_up h nD) (fun _ h => hG _ h) (fun i x H2 H3 acc C N hi rs hD ha y c n => ?_) (fun H2 xs rs hD ha => ?_)
    · obtain ⟨rfl, y⟩ := y
      obtain ⟨g, hg, rfl⟩ := nV_inv y
      have hgm := hm g (List.mem_of_getElem? hg)
      refine ⟨rfl, yes_te ?_⟩
      refine ⟨_, rfl, _, rfl, true, rfl, iteT ?_⟩
      refine ⟨_, rfl, _, _, rfl, rfl, _, rfl, ite_t (decide_eq_true (by omega)) ?_⟩
      refine ⟨_, rfl, _, _, rfl, rfl, ?_⟩
      show C (V.bl (decide ((g : Int) < (m : Int)))) _
      rw [decide_eq_true (by omega)]
      exact c _ _ rs hD (by rw [ha, List.replicate_succ'])
    · refine ⟨D, List.replicate r.length true, rfl, .inl (.inl ?_), ?_⟩
      · rw [hD, ha, nV_len]
        simp
      · have e : (List.replicate r.length true).all id = true := by simp
        rw [e]
        exact q _ (s1.trans rs)
def spWantMachine (K : PySem.W.Frag) : Sp := fun vs H Q _ => ∃ (sg : List Nat) (a b : V) (R : List (List Nat)) (k : List Bool), vs = [tx sg, a, b] ∧ Lets sg ∧ Rw K H a R ∧ Sq K H b (k.map V.bl) ∧ M14.Sht sg.length R k ∧ ∀ H', Same H H' → Q .non H'
theorem ok_want_machine (T : All K mg) : FnOk P w K mg base CX0 3 T.f_want_machine T.d_want_machine ["letters", "rows", "kinds"] (spWantMachine K) := by
  refine T.want_machine.F.ok sc_want_machine (fun vs H Q E h => ?_) (fun cdv A outer s H vs Q E hr h => ?_)
  · obtain ⟨sg, a, b, R, k, rfl, _⟩ := h
    rfl
  · obtain ⟨sg, a, b, R, k, rfl, hl, hR, hk, hG, q⟩ := h
    have zsg : sg.length ≤ sizeLine := sz (by have := hl.few; omega)
    refine ⟨_, pss_cons (ps_if (pt_not (pt_val (pe_call (ok_are_letters T) (hr.mono (by decide)) (by rfl) T.are_letters.g T.are_letters.F.kp T.are_letters.b .nil pass0 (pa_cons (pv 0) pa_nil)))) (pss_one ps_never) pss_nil)
      (pss_cons (ps_if (PW.pt (pw_or (pt_not (pt_val (pe_call (ok_is_list T) (hr.mono (by decide)) (by rfl) T.is_list.g T.is_list.F.kp T.is_list.b .nil pass0 (pa_cons (pv 1) pa_nil)))) (pw_or1 (pt_cmpR op_eq (pe_callB call_len_seq (by rfl) T.b_len PySem.boot_len (pa_cons (pv 1) pa_nil)) pe_int (nomark _))))) (pss_one ps_never) pss_nil)
      (pss_cons (ps_for PassesOwn.never rfl (pi_enumS rfl T.b_enumerate (pa_cons (pv 1) pa_nil)) (pg_tup rfl (pgs_cons (pg_name (i := 3) sc_want_machine.nd rfl (by first | exact Or.inl rfl | exact Or.inr rfl)) (pgs_cons (pg_name (i := 4) sc_want_machine.nd rfl (by first | exact Or.inl rfl | exact Or.inr rfl)) pgs_nil)))
        (pss_one (ps_if (pt_not (pt_val (pe_call (ok_is_row T) (hr.mono (by decide)) (by rfl) T.is_row.g T.is_row.F.kp T.is_row.b .nil pass0 (pa_cons (pv 4) (pa_cons (pe_callB call_lenT (by rfl) T.b_len PySem.boot_len (pa_cons (pv 0) pa_nil)) (pa_cons (pe_callB call_len_seq (by rfl) T.b_len PySem.boot_len (pa_cons (pv 1) pa_nil)) pa_nil)))))) (pss_one ps_never) pss_nil)))
      (pss_cons (ps_if (PW.pt (pw_or (pt_not (pt_val (pe_call (ok_is_list T) (hr.mono (by decide)) (by rfl) T.is_list.g T.is_list.F.kp T.is_list.b .nil pass0 (pa_cons (pv 2) pa_nil)))) (pw_or1 (pt_cmpR op_ne (pe_callB call_len_seq (by rfl) T.b_len PySem.boot_len (pa_cons (pv 2) pa_nil)) (pe_callB call_len_seq (by rfl) T.b_len PySem.boot_len (pa_cons (pv 1) pa_nil)) (nomark _))))) (pss_one ps_never) pss_nil)
      (pss_cons (ps_for PassesOwn.never rfl (pi_enumS rfl T.b_enumerate (pa_cons (pv 2) pa_nil)) (pg_tup rfl (pgs_cons (pg_name (i := 3) sc_want_machine.nd rfl (by first | exact Or.inl rfl | exact Or.inr rfl)) (pgs_cons (pg_name (i := 5) sc_want_machine.nd rfl (by first | exact Or.inl rfl | exact Or.inr rfl)) pgs_nil)))
        (pss_one (ps_if (pt_not (pt_val (pe_callB call_isi (by rfl) T.b_isinstance boot_isinstance (pa_cons (pv 5) (pa_cons (pe_bltn (v := .ty "bool") (by rfl) T.b_bool (by decide +kernel) rfl) pa_nil))))) (pss_one ps_never) pss_nil)))
      (pss_one (ps_expr (pe_call (ok_want_few T) (hr.mono (by decide)) (by rfl) T.want_few.g T.want_few.F.kp T.want_few.b .nil pass0 (pa_cons pe_str (pa_cons (pe_callB call_len_seq (by rfl) T.b_len PySem.boot_len (pa_cons (pv 1) pa_nil)) (pa_cons (ClX.pe_cval (pe_glob (v := .ref T.C_Machine) rfl T.g_Machine rfl)) pa_nil)))))))))), ?_⟩
    refine ⟨_, rfl, sg, rfl, hl, fun H1 s1 => ⟨true, rfl, iteF ?_⟩⟩
    obtain ⟨xs, hS, hlen, hrow⟩ := id hR
    refine ⟨_, rfl, a, xs, rfl, hS.same s1, fun H2 s2 => ⟨true, rfl, iteF ?_⟩⟩
    have s12 := s1.trans s2
    obtain ⟨aa, rfl, hSS⟩ := hS.same s12
    refine ⟨_, rfl, aa, xs, rfl, hSS, rfl, _, rfl, ite_f (decide_eq_false fun z => ?_) ?_⟩
    · have := hG.ne
      have := V.int.inj z
      omega
    obtain ⟨y, ey, hy⟩ := sq_src hS
    refine ⟨_, rfl, y, xs, congrArg (fun z => [z]) ey, hy _ s12, for_it walk_enumS (fun i σ H' => ∃ p r, σ = [some (tx sg), some (.ref aa), some b, p, r, none] ∧ Same H H') ⟨none, none, rfl, s12⟩ (fun i σ H' _ p => by obtain ⟨_, _, _, sm⟩ := p; exact hy _ sm) (fun i x σ H3 H4 hi p y => ?_) (fun σ H3 p => ?_)⟩
    · obtain ⟨p0, r0, rfl, sm⟩ := p
      obtain ⟨Tp, x1, x2, rfl, nT, rfl, e1, e2⟩ := y
      cases e1
      obtain ⟨r, hr1⟩ : ∃ r, R[i]? = some r := ⟨R[i]'(by omega), List.getElem?_eq_getElem (by omega)⟩
      have hrm : r ∈ R := List.mem_of_getElem? hr1
      have hrl := hG.len r hrm
      have sm2 := same_up (o := .tup [.int (i : Nat), x2]) sm (sm.free nT)
      refine ⟨Tp, _, rfl, .inl (.inl upd_same), rfl, _, _, rfl, _, _, rfl, rfl, ?_⟩
      refine ⟨_, rfl, _, rfl, sg, rfl, zsg, _, rfl, aa, xs, rfl, (by obtain ⟨z, e, h⟩ := hS.same sm2; cases e; exact h), ?_⟩
      refine ⟨x2, r, R.length, by rw [hrl, hlen]; rfl, (hrow i x2 r e2 hr1).same sm2, fun g hg => ?_, by have := hl.few; omega, fun H5 s5 => ⟨true, rfl, iteF ⟨_, _, rfl, sm2.trans s5⟩⟩⟩
      have hi2 : i < R.length := by omega
      exact hG.val i hi2 g (by rw [M14.row_get hr1]; exact hg)
    · obtain ⟨p0, r0, rfl, s3⟩ := p
      have ek : (k.map V.bl).length = R.length := by rw [List.length_map]; exact hG.kin
      refine ⟨_, rfl, b, _, rfl, hk.same s3, fun H4 s4 => ⟨true, rfl, iteF ?_⟩⟩
      have s34 := s3.trans s4
      obtain ⟨bb, rfl, hkk⟩ := hk.same s34
      refine ⟨_, rfl, bb, _, rfl, hkk, _, rfl, aa, xs, rfl, (by obtain ⟨z, e, h⟩ := hS.same s34; cases e; exact h), rfl, _, rfl, ite_f ?_ ?_⟩
      · rw [ek, hlen]; simp
      obtain ⟨y2, ey2, hy2⟩ := sq_src hk
      refine ⟨_, rfl, y2, _, congrArg (fun z => [z]) ey2, hy2 _ s34, for_it walk_enumS (fun i σ H' => ∃ p r kk, σ = [some (tx sg), some (.ref aa), some (.ref bb), p, r, kk] ∧ Same H H') ⟨_, _, _, rfl, s34⟩ (fun i σ H' _ p => by obtain ⟨_, _, _, _, sm⟩ := p; exact hy2 _ sm) (fun i x σ H5 H6 hi p y => ?_) (fun σ H5 p => ?_)⟩
      · obtain ⟨p0, r0, k0, rfl, sm⟩ := p
        obtain ⟨Tp, x1, x2, rfl, nT, rfl, e1, e2⟩ := y
        cases e1
        have e2 : (k.map V.bl)[i]? = some x2 := e2
        rw [List.getElem?_map] at e2
        obtain ⟨kb, hkb, rfl⟩ := Option.map_eq_some_iff.mp e2
        have sm2 := same_up (o := .tup [.int (i : Nat), .bl kb]) sm (sm.free nT)
        refine ⟨Tp, _, rfl, .inl (.inl upd_same), rfl, _, _, rfl, _, _, rfl, rfl, ?_⟩
        refine ⟨_, rfl, _, .ty "bool", .type "bool", .type "bool", true, rfl, .ty _, .base (.bl _), kit_ty (by decide +kernel), true, rfl, iteF ⟨_, _, _, rfl, sm2⟩⟩
      · obtain ⟨p0, r0, k0, rfl, s5⟩ := p
        obtain ⟨tk, hcv⟩ := T.cv_Machine_MOST_PLACES
        refine ⟨_, rfl, aa, xs, rfl, (by obtain ⟨z, e, h⟩ := hS.same s5; cases e; exact h), T.C_Machine, .type "type", _, _, rfl, T.cr_Machine, hcv, ?_⟩
        refine ⟨_, _, _, rfl, ?_, q _ s5⟩
        have := hG.few
        omega
end
end Lw
namespace Lw
open PySem PySem.Spec PyProof.Rows L3
open L2 hiding del del_same del_ne
/-- a while that counts -/
theorem while_n {c : TT} {tb : TS} {D : Ends} {σ : L2.St} {H : Hp} (Pv : Nat → L2.St → Hp → Prop) (N : Nat) (h0 : Pv 0 σ H)
    (hs : ∀ n σ H, Pv n σ H → ∀ Kc : Bool → Hp → Prop, (∀ H1, n < N → tb { D with nx := Pv (n + 1), ct := Pv (n + 1), bk := D.nx } σ H1 → Kc true H1) → (∀ H1, D.nx σ H1 → Kc false H1) → c σ H Kc) : tWhile c tb D σ H := by
  refine ⟨fun m σ H => ∃ n, m = N - n ∧ Pv n σ H, ⟨_, 0, rfl, h0⟩, ?_⟩
  rintro m σ H ⟨n, rfl, p⟩
  refine hs n σ H p _ (fun H1 hn h => ?_) (fun H1 h => ?_)
  · exact iteT ⟨Pv (n + 1), fun σ' H' p' => ⟨N - (n + 1), by omega, n + 1, rfl, p'⟩, h⟩
  · exact iteF h
theorem Rw.row {K : PySem.W.Frag} {H : Hp} {v : V} {R : List (List Nat)} (h : Rw K H v R) {p : Nat} (hp : p < R.length) : ∃ xs x, Sq K H v xs ∧ xs[p]? = some x ∧ Sq K H x (nV (M14.row R p)) := by
  obtain ⟨xs, hS, hl, hr⟩ := h
  have hx : p < xs.length := by omega
  exact ⟨xs, xs[p], hS, List.getElem?_eq_getElem hx, hr p _ _ (List.getElem?_eq_getElem hx) (M14.row_at hp)⟩
section
variable {P : Program} {w : World} {K : PySem.W.Frag} {mg : Str → Option Value} {base : Heap}
def spMet (K : PySem.W.Frag) : Sp := fun vs H Q _ => ∃ (a : V) (R : List (List Nat)) (st : Nat), vs = [a, .int (st : Int)] ∧ Rw K H a R ∧ M14.Val R ∧ st < R.length ∧ R.length ≤ 40 ∧ ∀ H' p, Same H H' → H p = none → H' p = some (.lst (nV (M14.met R st))) → Q (.ref p) H'
theorem ok_met_from (T : All K mg) : FnOk P w K mg base CX0 1 T.f_met_from T.d_met_from ["rows", "start"] (spMet K) := by
  refine T.met_from.F.ok sc_met_from (fun vs H Q E h => ?_) (fun cdv A outer s H vs Q E hr h => ?_)
  · obtain ⟨a, R, st, rfl, _⟩ := h
    rfl
  · obtain ⟨a, R, st, rfl, hR, hv, hst, hfew, q⟩ := h
    refine ⟨_, pss_cons (ps_set (i := 2) sc_met_from.nd rfl (by first | exact Or.inl rfl | exact Or.inr rfl) (pe_lst pa_nil))
      (pss_cons (ps_expr (pe_bm PySem.F.plainAttrs_list PySem.F.slot_list_append PySem.F.type_list_append mt_append (pv 2) (pa_cons (pv 1) pa_nil)))
      (pss_cons (ps_set (i := 3) sc_met_from.nd rfl (by first | exact Or.inl rfl | exact Or.inr rfl) pe_int)
      (pss_cons (ps_while PassesOwn.never (pt_cmpR op_lt (pv 3) (pe_callB call_len_seq (by rfl) T.b_len PySem.boot_len (pa_cons (pv 2) pa_nil)) (nomark _))
        (pss_cons (ps_for PassesOwn.never rfl (pi_sq (pe_ix ix_sq (pv 0) (pe_ix ix_list (pv 2) (pv 3) (fun _ _ => rfl)) (fun _ _ => rfl))) (pg_name (i := 4) sc_met_from.nd rfl (by first | exact Or.inl rfl | exact Or.inr rfl))
        (pss_one (ps_if (pt_cmpR op_notInN (pv 4) (pv 2) (by rfl)) (pss_one (ps_expr (pe_bm PySem.F.plainAttrs_list PySem.F.slot_list_append PySem.F.type_list_append mt_append (pv 2) (pa_cons (pv 4) pa_nil)))) pss_nil)))
      (pss_one (ps_set (i := 3) sc_met_from.nd rfl (by first | exact Or.inl rfl | exact Or.inr rfl) (pe_op op_add (pv 3) pe_int)))))
      (pss_one (ps_ret (pv 2)))))), ?_⟩
    refine ⟨by show 0 ≤ sizeLine; decide, fun D nD => ?_⟩
    refine ⟨_, rfl, .inl ⟨rfl, _, .inl (.inl upd_same)⟩, _, rfl, D, _, _, rfl, rfl, upd_same, by show 0 < sizeLine; decide, ?_⟩
    rw [upd_upd]
    refine while_n (fun n σ H' => ∃ g, σ = [some a, some (.int (st : Int)), some (.ref D), some (.int (n : Int)), g] ∧ H' D = some (.lst (nV (M14.metI R st n))) ∧ Same H H') 40 ⟨none, rfl, upd_same, same_upd nD⟩ (fun n σ H1 p Kc kt kf => ?_)
    obtain ⟨g0, rfl, hD, sm⟩ := p
    have hlen := M14.metI_len hv hst n
    refine ⟨_, rfl, _, rfl, D, _, rfl, .inl (.inl (.inl hD)), _, _, rfl, rfl, _, rfl, ?_⟩
    rw [nV_len]
    by_cases hlt : n < (M14.metI R st n).length
    · rw [decide_eq_true (by omega : (n : Int) < ((M14.metI R st n).length : Int))]
      refine kt _ (by omega) ?_
      have hgt : (M14.metI R st n)[n]? = some (M14.metI R st n)[n] := List.getElem?_eq_getElem hlt
      generalize (M14.metI R st n)[n] = p at hgt
      have hp : p < R.length := M14.metI_lt hv hst n p (List.mem_of_getElem? hgt)
      obtain ⟨xs, x, hS, hx, hSx⟩ := hR.row hp
      refine ⟨_, rfl, _, rfl, _, rfl, D, _, _, _, rfl, rfl, .inl (.inl hD), atI_nat (nV_get hgt), xs, _, x, hS.same sm, rfl, atI_nat hx, _, H, hSx, sm, fun J G wk hG => ?_⟩
      refine for_it wk (fun i σ H' => ∃ g, σ = [some a, some (.int (st : Int)), some (.ref D), some (.int (n : Int)), g] ∧ H' D = some (.lst (nV (((M14.row R p).take i).foldl M14.addG (M14.metI R st n)))) ∧ Same H H') ⟨_, rfl, hD, sm⟩ (fun i σ H' _ p => by obtain ⟨_, _, _, sm⟩ := p; exact hG _ sm) (fun i x σ H2 H3 hi p' y => ?_) (fun σ H2 p' => ?_)
      · obtain ⟨g1, rfl, hD2, sm2⟩ := p'
        obtain ⟨rfl, y⟩ := y
        obtain ⟨g, hg, rfl⟩ := nV_inv y
        have hstep : ((M14.row R p).take (i + 1)).foldl M14.addG (M14.metI R st n) = M14.addG (((M14.row R p).take i).foldl M14.addG (M14.metI R st n)) g := by
          rw [List.take_add_one, hg, List.foldl_append]; rfl
        refine ⟨_, rfl, _, rfl, _, g, rfl, sq_list (.inl (.inl hD2)), _, rfl, ?_⟩
        by_cases hm : g ∈ ((M14.row R p).take i).foldl M14.addG (M14.metI R st n)
        · refine ite_f (by simp [hm]) ?_
          refine ⟨_, rfl, ?_, sm2⟩
          rw [hstep, hD2, M14.addG, if_pos hm]
        · refine ite_t (by simp [hm]) ?_
          have hlen2 : (((M14.row R p).take i).foldl M14.addG (M14.metI R st n)).length ≤ R.length := M14.nodup_len _ _ (M14.fold_nodup (M14.metI_nodup R st n)) fun z hz => by
            rcases M14.fold_mem.mp hz with hz | hz
            · exact M14.metI_lt hv hst n z hz
            · exact hv p hp z (List.mem_of_mem_take hz)
          refine ⟨_, rfl, .inl ⟨rfl, _, .inl (.inl hD2)⟩, _, rfl, D, _, _, rfl, rfl, hD2, by rw [nV_len]; exact Nat.lt_of_lt_of_le (Nat.lt_succ_of_le hlen2) (sz (by omega)), ?_⟩
          refine ⟨_, rfl, ?_, same_up sm2 nD⟩
          rw [upd_same, hstep, M14.addG, if_neg hm]
          unfold nV
          rw [List.map_append]
          rfl
      · obtain ⟨g1, rfl, hD2, sm2⟩ := p'
        rw [nV_len, List.take_length, ← M14.metI_succ hgt] at hD2
        exact ⟨_, rfl, _, _, rfl, rfl, _, by simp; rfl, hD2, sm2⟩
    · rw [decide_eq_false (by omega : ¬ (n : Int) < ((M14.metI R st n).length : Int))]
      refine kf _ ?_
      refine ⟨_, rfl, q _ D sm nD ?_⟩
      rw [hD, M14.met_of hv hst (by omega)]
end
end Lw
namespace Lw
open PySem PySem.Spec PyProof.Rows L3
open L2 hiding del del_same del_ne
def dTR (R : List (List Nat)) : PyData := .tuple (R.map fun r => .tuple (dN r))
def dLR (R : List (List Nat)) : PyData := .list (R.map fun r => .list (dN r))
theorem rw_dTR {K : PySem.W.Frag} {H : Hp} {v : V} {R : List (List Nat)} (h : Dp K H v (dTR R)) : Rw K H v R := by
  obtain ⟨a, xs, rfl, hS, hA⟩ := dp_tuple h
  refine ⟨xs, sq_tuple hS, by rw [dpAll_len hA, List.length_map], fun i x r h1 h2 => ?_⟩
  obtain ⟨d, h3, h4⟩ := dpAll_back hA h1
  rw [List.getElem?_map, h2] at h3
  cases h3
  obtain ⟨b, ys, rfl, hS2, hA2⟩ := dp_tuple h4
  rw [dpAll_nats hA2] at hS2
  exact sq_tuple hS2
theorem rw_dLR {K : PySem.W.Frag} {H : Hp} {v : V} {R : List (List Nat)} (h : Dp K H v (dLR R)) : Rw K H v R := by
  obtain ⟨a, xs, rfl, hS, hA⟩ := dp_list h
  refine ⟨xs, sq_list hS, by rw [dpAll_len hA, List.length_map], fun i x r h1 h2 => ?_⟩
  obtain ⟨d, h3, h4⟩ := dpAll_back hA h1
  rw [List.getElem?_map, h2] at h3
  cases h3
  obtain ⟨b, ys, rfl, hS2, hA2⟩ := dp_list h4
  rw [dpAll_nats hA2] at hS2
  exact sq_list hS2
theorem putF_len (f : Str) (v : V) : ∀ fs : List (Str × V), (putF f v fs).length ≤ fs.length + 1
  | [] => Nat.le_refl _
  | (g, x) :: fs => by
    unfold putF
    split
    · exact Nat.le_succ _
    · rw [List.length_cons, List.length_cons]
      exact Nat.succ_le_succ (putF_len f v fs)
theorem putF_lt {f : Str} {v : V} {fs : List (Str × V)} {n : Nat} (h : fs.length ≤ n) (hn : n + 1 < 1000) : (putF f v fs).length < 1000 := Nat.lt_of_le_of_lt (Nat.le_trans (putF_len f v fs) (Nat.succ_le_succ h)) hn
/-- a machine at a -/
structure Mach (C : Addr) (K : PySem.W.Frag) (H : Hp) (a : Addr) (sg : List Nat) (R : List (List Nat)) (k : List Bool) : Prop where
  at_ : ∃ dx r q, H a = some (.ins C dx [("own_letters", tx sg), ("own_rows", .ref r), ("own_kinds", .ref q)]) ∧ Dp K H (.ref r) (dTR R) ∧ SqT K H q (k.map V.bl)
  lets : Lets sg
  good : M14.Good sg.length R k
theorem Mach.same {C : Addr} {K : PySem.W.Frag} {H H' : Hp} {a : Addr} {sg : List Nat} {R : List (List Nat)} {k : List Bool} (h : Mach C K H a sg R k) (s : Same H H') : Mach C K H' a sg R k := by
  obtain ⟨⟨dx, r, q, h1, h2, h3⟩, h4, h5⟩ := h
  exact ⟨⟨dx, r, q, s _ _ h1, Dp.same s h2, sqT_same h3 s⟩, h4, h5⟩
section
variable {P : Program} {w : World} {K : PySem.W.Frag} {mg : Str → Option Value} {base : Heap}
def spInit (K : PySem.W.Frag) (C : Addr) : Sp := fun vs H Q _ => ∃ (x dx : Addr) (sg : List Nat) (a b : V) (R : List (List Nat)) (k : List Bool), vs = [.ref x, tx sg, a, b] ∧ H x = some (.ins C dx []) ∧ Lets sg ∧ Rw K H a R ∧ Sq K H b (k.map V.bl) ∧ M14.Good sg.length R k ∧
  ∀ H', (∀ b o, H b = some o → b ≠ x → H' b = some o) → Mach C K H' x sg R k → Q .non H'
theorem ok_Machine_init (T : All K mg) : FnOk P w K mg base CX0 4 T.f_Machine_init T.d_Machine_init ["self", "letters", "rows", "kinds"] (spInit K T.C_Machine) := by
  refine T.Machine_init.F.ok sc_Machine_init (fun vs H Q E h => ?_) (fun cdv A outer s H vs Q E hr h => ?_)
  · obtain ⟨x, dx, sg, a, b, R, k, rfl, _⟩ := h
    rfl
  · obtain ⟨x, dx, sg, a, b, R, k, rfl, hx, hl, hR, hk, hG, q⟩ := h
    refine ⟨_, pss_cons (ps_expr (pe_call (ok_want_machine T) (hr.mono (by decide)) (by rfl) T.want_machine.g T.want_machine.F.kp T.want_machine.b .nil pass0 (pa_cons (pv 1) (pa_cons (pv 2) (pa_cons (pv 3) pa_nil)))))
      (pss_cons (ps_set (i := 4) sc_Machine_init.nd rfl (by first | exact Or.inl rfl | exact Or.inr rfl) (pe_call (ok_met_from T) (hr.mono (by decide)) (by rfl) T.met_from.g T.met_from.F.kp T.met_from.b .nil pass0 (pa_cons (pv 2) (pa_cons pe_int pa_nil))))
      (pss_cons (ps_for PassesOwn.never rfl (pi_range1 rfl T.b_range (pa_cons (pe_callB call_len_seq (by rfl) T.b_len PySem.boot_len (pa_cons (pv 2) pa_nil)) pa_nil)) (pg_name (i := 5) sc_Machine_init.nd rfl (by first | exact Or.inl rfl | exact Or.inr rfl))
        (pss_one (ps_if (pt_cmpR op_notInN (pv 5) (pv 4) (by rfl)) (pss_one ps_never) pss_nil)))
      (pss_cons (ps_fld (pv 0) (pv 1) rfl)
      (pss_cons (ps_fld (pv 0) (pe_callTy call_tuple_of (by rfl) T.b_tuple (show bootBuiltins "tuple" = some (.type "tuple") by decide +kernel) (pa_cons (pe_lc (own := [("row", 6)]) (g := gName 6) (tt := tYes) rfl sc_Machine_init.nd (pi_sq (pv 2))
          (blkOk_by (own := [("row", 6)]) (N := ["self", "letters", "rows", "kinds", "met", "place", "row"]) (sc := defScope s_Machine_init) (by decide +kernel))
          (fun _ _ _ _ _ => pg_name (i := 6) sc_Machine_init.nd rfl (by first | exact Or.inl rfl | exact Or.inr rfl)) (fun _ _ _ _ _ => pts_nil)
          (fun _ _ _ _ _ => (pe_callTy (call_tuple_ofK (K := K) rfl) (by rfl) T.b_tuple (show bootBuiltins "tuple" = some (.type "tuple") by decide +kernel) (pa_cons (pv 6) pa_nil)))) pa_nil)) rfl)
      (pss_one (ps_fld (pv 0) (pe_callTy call_tuple_of (by rfl) T.b_tuple (show bootBuiltins "tuple" = some (.type "tuple") by decide +kernel) (pa_cons (pv 3) pa_nil)) rfl)))))), ?_⟩
    refine ⟨_, rfl, _, rfl, _, rfl, sg, a, b, R, k, rfl, hl, hR, hk, hG.toSht, fun H1 s1 => ?_⟩
    refine ⟨_, rfl, a, R, 0, rfl, hR.same s1, hG.val, hG.ne, hG.few, fun H2 M s2 nM hM => ?_⟩
    have s12 := s1.trans s2
    obtain ⟨xs, hS, hlen, hrow⟩ := id hR
    obtain ⟨aa, rfl, hSS⟩ := hS.same s12
    refine ⟨_, rfl, aa, xs, rfl, hSS, _, rfl, by omega, by have := hG.few; omega, ?_⟩
    rw [show ((xs.length : Int)).toNat = xs.length by omega]
    refine for_it walk_range (fun i σ H' => ∃ p, σ = [some (.ref x), some (tx sg), some (.ref aa), some b, some (.ref M), p, none] ∧ H' = H2) ⟨none, rfl, rfl⟩ (fun _ _ _ _ _ => trivial) (fun i x' σ H3 H4 hi p y => ?_) (fun σ H3 p => ?_)
    · obtain ⟨p0, rfl, rfl⟩ := p
      obtain ⟨rfl, rfl⟩ := y
      refine ⟨_, rfl, _, rfl, _, i, congrArg V.int (Int.zero_add _), sq_list (.inl (.inl hM)), _, rfl, ite_f ?_ ⟨_, rfl, rfl⟩⟩
      have := hG.all i (by omega)
      simp [this]
    · obtain ⟨p0, rfl, rfl⟩ := p
      have hx2 := s12 _ _ hx
      have hB0 : (del H x) x = none := del_at H x
      have sB2 : Same (del H x) H3 := (del_same H x).trans s12
      have hSB : Sq K (del H x) (.ref aa) xs := sq_del hx hS
      have hrB : ∀ (i : Nat) (y : V) (r : List Nat), xs[i]? = some y → R[i]? = some r → Sq K (del H x) y (nV r) := fun i y r h1 h2 => sq_del hx (hrow i y r h1 h2)
      have hkB : Sq K (del H x) b (k.map V.bl) := sq_del hx hk
      refine ⟨_, rfl, _, rfl, x, T.C_Machine, dx, [], rfl, hx2, T.cl_Machine, T.n_Machine_own_letters, by decide, ?_⟩
      have sB4 : Same (del H x) (upd H3 x (.ins T.C_Machine dx (putF "own_letters" (tx sg) []))) := same_up sB2 hB0
      refine ⟨_, rfl, xs, del H x, hSB, sB4, fun J G wk hGG D nD => ?_⟩
      have hBD : (del H x) D = none := sB4.free nD
      refine lc_data (K := K) wk (R.map fun r => .tuple (dN r)) (by rw [List.length_map, hlen]) (sz (by have := hG.few; omega)) nD (fun H' s' => hGG H' (sB4.trans s')) (fun i y Hh H' acc d C hi sm hD yy hd c => ?_) gName_mono (fun H5 xs' s5 hD5 hA => ?_)
      · obtain ⟨rfl, hy⟩ := yy
        rw [List.getElem?_map] at hd
        obtain ⟨r, hr1, rfl⟩ := Option.map_eq_some_iff.mp hd
        obtain ⟨pa, rfl, hp⟩ := hrB i y r hy hr1
        have sBh := sB4.trans sm
        refine ⟨rfl, ⟨_, rfl, pa, nV r, rfl, ?_⟩⟩
        rcases hp with hp | hp
        · refine .inl ⟨sq_same hp sBh, fun l nl => c _ _ (same_upd nl) (.tup (.inl (.inl ?_)) (dpAll_nV r))⟩
          rw [del_ne (fun e => by rw [e, hD] at nl; cases nl), upd_same]
        · exact .inr ⟨sqT_same hp sBh, c _ _ (Same.refl _) (.tup (sqT_same hp (same_del sBh hBD)) (dpAll_nV r))⟩
      · have hx5 := s5 _ _ (upd_same (H := H3) (a := x))
        have nDx : x ≠ D := fun e => by rw [← e, upd_same] at nD; cases nD
        refine ⟨D, xs', rfl, .inl ⟨.inl (.inl hD5), fun r nr => ?_⟩⟩
        have nrx : x ≠ r := fun e => by rw [← e, hx5] at nr; cases nr
        have hx6 : upd H5 r (.tup xs') x = some (.ins T.C_Machine dx (putF "own_letters" (tx sg) [])) := by rw [upd_ne nrx]; exact hx5
        refine ⟨_, rfl, x, T.C_Machine, dx, _, rfl, hx6, T.cl_Machine, T.n_Machine_own_rows, putF_lt (n := 0) (Nat.zero_le _) (by decide), ?_⟩
        have sB5 := sB4.trans s5
        have hBr : (del H x) r = none := sB5.free nr
        have sB6 : Same (del H x) (upd (upd H5 r (.tup xs')) x (.ins T.C_Machine dx (putF "own_rows" (.ref r) (putF "own_letters" (tx sg) [])))) := same_up (same_up sB5 hBr) hB0
        have hA2 : DpAll K (del (del H5 D) x) xs' (R.map fun r => .tuple (dN r)) := dpAll_del (by rw [del_ne nDx]; exact hx5) hA
        have sA : ∀ H7, Same (upd (del (del H5 D) x) r (.tup xs')) H7 → Dp K H7 (.ref r) (dTR R) := fun H7 s7 => .tup (.inl (.inl (s7 _ _ upd_same))) (DpAll.same ((same_upd (by
          rw [del_ne nrx.symm]; unfold del; split <;> first | rfl | exact nr)).trans s7) hA2)
        have s66 : Same (upd (del (del H5 D) x) r (.tup xs')) (upd (upd H5 r (.tup xs')) x (.ins T.C_Machine dx (putF "own_rows" (.ref r) (putF "own_letters" (tx sg) [])))) := fun bb o e => by
          have nbx : bb ≠ x := fun z => by
            rw [z, upd_ne nrx, del_at] at e; cases e
          rw [upd_ne nbx]
          by_cases hbr : bb = r
          · rw [hbr, upd_same] at e ⊢; exact e
          · rw [upd_ne hbr, del_ne nbx] at e
            rw [upd_ne hbr]
            exact del_same _ _ _ _ e
        have fin : ∀ (H7 : Hp) (qq : Addr), Same (upd (upd H5 r (.tup xs')) x (.ins T.C_Machine dx (putF "own_rows" (.ref r) (putF "own_letters" (tx sg) [])))) H7 → SqT K (del H7 x) qq (k.map V.bl) → Q .non (upd H7 x (.ins T.C_Machine dx (putF "own_kinds" (.ref qq) (putF "own_rows" (.ref r) (putF "own_letters" (tx sg) []))))) := fun H7 qq s7 hq => by
          have hx7 := s7 _ _ (upd_same (a := x))
          have sd : Same (del H7 x) (upd H7 x (.ins T.C_Machine dx (putF "own_kinds" (.ref qq) (putF "own_rows" (.ref r) (putF "own_letters" (tx sg) []))))) := same_up (del_same _ _) (del_at _ _)
          refine q _ (fun bb o e nb => ?_) ⟨⟨dx, r, qq, upd_same, ?_, sqT_same hq sd⟩, hl, hG⟩
          · rw [upd_ne nb]
            exact s7 _ _ (sB6 _ _ (by rw [del_ne nb]; exact e))
          · exact Dp.same sd (dp_del hx7 (sA _ (s66.trans s7)))
        obtain ⟨bb, rfl, hkk⟩ := id hkB
        refine ⟨_, rfl, bb, k.map V.bl, rfl, ?_⟩
        rcases hkk with hkk | hkk
        · refine .inl ⟨sq_same hkk sB6, fun qq nq => ?_⟩
          have nqx : x ≠ qq := fun e => by rw [← e, upd_same] at nq; cases nq
          refine ⟨_, rfl, x, T.C_Machine, dx, _, rfl, by rw [upd_ne nqx, upd_same], T.cl_Machine, T.n_Machine_own_kinds, putF_lt (n := 1) (putF_len _ _ _) (by decide), ?_⟩
          exact fin _ qq (same_upd nq) (.inl (.inl (by rw [del_ne nqx.symm, upd_same])))
        · refine .inr ⟨sqT_same hkk sB6, ?_⟩
          refine ⟨_, rfl, x, T.C_Machine, dx, _, rfl, upd_same, T.cl_Machine, T.n_Machine_own_kinds, putF_lt (n := 1) (putF_len _ _ _) (by decide), ?_⟩
          exact fin _ bb (Same.refl _) (sqT_same hkk (same_del sB6 hB0))
end
end Lw
namespace Lw
open PySem PySem.Spec PyProof.Rows L3
open L2 hiding del del_same del_ne
theorem kAt_get {k : List Bool} {p : Nat} (h : p < k.length) : (k.map V.bl)[p]? = some (.bl (M14.kAt k p)) := by
  rw [List.getElem?_map, List.getElem?_eq_getElem h]
  unfold M14.kAt
  rw [List.getD_eq_getElem?_getD, List.getElem?_eq_getElem h]
  rfl
def isTyV : Value → Bool
  | .type _ => true
  | _ => false
def plainTy (ty : String) : Bool := match PySem.fastBuiltinMro ty with
  | some l => l.all isTyV
  | none => false
theorem sub_plain {K : PySem.W.Frag} {C : Addr} {ty : String} (h : plainTy ty = true) : PySem.W.subIn K (.type ty) (.ref C) = some false := by
  unfold plainTy at h
  show (PySem.fastBuiltinMro ty).map (·.contains (.ref C)) = some false
  cases e : PySem.fastBuiltinMro ty with
  | none => rw [e] at h; cases h
  | some l =>
    rw [e] at h
    simp only [Option.map_some, Option.some.injEq]
    rw [← Bool.not_eq_true, List.contains_iff_mem]
    intro hm
    have := List.all_eq_true.mp h _ hm
    cases this
theorem first_own {K : PySem.W.Frag} {C : Addr} : PySem.W.notFirst K C (.ref C) = true := by
  unfold PySem.W.notFirst
  simp
theorem Rw.sq {K : PySem.W.Frag} {H : Hp} {v : V} {R : List (List Nat)} (h : Rw K H v R) : ∃ xs, Sq K H v xs ∧ xs.length = R.length := by
  obtain ⟨xs, a, b, _⟩ := h
  exact ⟨xs, a, b⟩
section
variable {P : Program} {w : World} {K : PySem.W.Frag} {mg : Str → Option Value} {base : Heap}
def spLetters (K : PySem.W.Frag) (C : Addr) : Sp := fun vs H Q _ => ∃ a sg R k, vs = [.ref a] ∧ Mach C K H a sg R k ∧ Q (tx sg) H
theorem ok_Machine_letters (T : All K mg) : FnOk P w K mg base CX0 1 T.f_Machine_letters T.d_Machine_letters ["self"] (spLetters K T.C_Machine) := by
  refine T.Machine_letters.F.ok sc_Machine_letters (fun vs H Q E h => ?_) (fun cdv A outer s H vs Q E hr h => ?_)
  · obtain ⟨a, sg, R, k, rfl, _⟩ := h
    rfl
  · obtain ⟨a, sg, R, k, rfl, hM, q⟩ := h
    obtain ⟨dx, r, qq, hat, hr1, hk1⟩ := hM.at_
    refine ⟨_, pss_one (ps_ret (pe_fld (pv 0) rfl)), ?_⟩
    exact ⟨_, rfl, a, T.C_Machine, dx, _, _, rfl, hat, T.cl_Machine, T.n_Machine_own_letters, rfl, q⟩
def spLen (K : PySem.W.Frag) (C : Addr) : Sp := fun vs H Q _ => ∃ a sg R k, vs = [.ref a] ∧ Mach C K H a sg R k ∧ Q (.int (R.length : Int)) H
theorem ok_Machine_len (T : All K mg) : FnOk P w K mg base CX0 1 T.f_Machine_len T.d_Machine_len ["self"] (spLen K T.C_Machine) := by
  refine T.Machine_len.F.ok sc_Machine_len (fun vs H Q E h => ?_) (fun cdv A outer s H vs Q E hr h => ?_)
  · obtain ⟨a, sg, R, k, rfl, _⟩ := h
    rfl
  · obtain ⟨a, sg, R, k, rfl, hM, q⟩ := h
    obtain ⟨dx, r, qq, hat, hr1, hk1⟩ := hM.at_
    obtain ⟨xs, hS, hl⟩ := (rw_dTR hr1).sq
    obtain ⟨r', e, hS'⟩ := hS
    cases e
    refine ⟨_, pss_one (ps_ret (pe_callB call_len_seq (by rfl) T.b_len PySem.boot_len (pa_cons (pe_fld (pv 0) rfl) pa_nil))), ?_⟩
    refine ⟨_, rfl, a, T.C_Machine, dx, _, _, rfl, hat, T.cl_Machine, T.n_Machine_own_rows, rfl, r, xs, rfl, hS', ?_⟩
    rw [hl]
    exact q
def spKinds (K : PySem.W.Frag) (C : Addr) : Sp := fun vs H Q _ => ∃ a sg R k, vs = [.ref a] ∧ Mach C K H a sg R k ∧ ∀ p, H p = none → Q (.ref p) (upd H p (.lst (k.map V.bl)))
theorem ok_Machine_kinds (T : All K mg) : FnOk P w K mg base CX0 1 T.f_Machine_kinds T.d_Machine_kinds ["self"] (spKinds K T.C_Machine) := by
  refine T.Machine_kinds.F.ok sc_Machine_kinds (fun vs H Q E h => ?_) (fun cdv A outer s H vs Q E hr h => ?_)
  · obtain ⟨a, sg, R, k, rfl, _⟩ := h
    rfl
  · obtain ⟨a, sg, R, k, rfl, hM, q⟩ := h
    obtain ⟨dx, r, qq, hat, hr1, hk1⟩ := hM.at_
    refine ⟨_, pss_one (ps_ret (pe_callTy call_list_of (by rfl) T.b_list PyProof.Rows.boot_list (pa_cons (pe_fld (pv 0) rfl) pa_nil))), ?_⟩
    exact ⟨_, rfl, a, T.C_Machine, dx, _, _, rfl, hat, T.cl_Machine, T.n_Machine_own_kinds, rfl, qq, _, rfl, .inr hk1, q⟩
/-- a new list of new lists -/
def NewRows (H H' : Hp) (p : Addr) (R : List (List Nat)) : Prop := ∃ xs, H' p = some (.lst xs) ∧ xs.length = R.length ∧ ∀ (i : Nat) (x : V), xs[i]? = some x → ∃ q, x = .ref q ∧ H q = none ∧ q ≠ p ∧ H' q = some (.lst (nV (M14.row R i)))
theorem NewRows.dp {K : PySem.W.Frag} {H H' : Hp} {p : Addr} {R : List (List Nat)} (h : NewRows H H' p R) : Dp K H' (.ref p) (dLR R) := by
  obtain ⟨xs, hp, hl, hx⟩ := h
  refine .lst (.inl (.inl hp)) (dpAll_of (by rw [List.length_map]; exact hl) fun i x d h1 h2 => ?_)
  obtain ⟨q, rfl, _, _, hq⟩ := hx i x h1
  rw [List.getElem?_map] at h2
  obtain ⟨r, hr, rfl⟩ := Option.map_eq_some_iff.mp h2
  rw [M14.row_get hr] at hq
  exact .lst (.inl (.inl hq)) (dpAll_nV r)
def spRows (K : PySem.W.Frag) (C : Addr) : Sp := fun vs H Q _ => ∃ a sg R k, vs = [.ref a] ∧ Mach C K H a sg R k ∧ ∀ H' p, Same H H' → H p = none → NewRows H H' p R → Q (.ref p) H'
theorem ok_Machine_rows (T : All K mg) : FnOk P w K mg base CX0 1 T.f_Machine_rows T.d_Machine_rows ["self"] (spRows K T.C_Machine) := by
  refine T.Machine_rows.F.ok sc_Machine_rows (fun vs H Q E h => ?_) (fun cdv A outer s H vs Q E hr h => ?_)
  · obtain ⟨a, sg, R, k, rfl, _⟩ := h
    rfl
  · obtain ⟨a, sg, R, k, rfl, hM, q⟩ := h
    obtain ⟨dx, r, qq, hat, hr1, hk1⟩ := hM.at_
    have hfew := hM.good.few
    obtain ⟨xs, hS, hl, hrow⟩ := rw_dTR hr1
    obtain ⟨_, _, e', hST, _⟩ := dp_tuple hr1
    cases e'
    obtain ⟨ra, ys, e2, hST, hAll⟩ := dp_tuple hr1
    cases e2
    have hyl : ys.length = R.length := by rw [dpAll_len hAll, List.length_map]
    refine ⟨_, pss_one (ps_ret (pe_lc (own := [("row", 1)]) (g := gName 1) (tt := tYes) rfl sc_Machine_rows.nd (pi_tup (pe_fld (pv 0) rfl))
          (blkOk_by (own := [("row", 1)]) (N := ["self", "row"]) (sc := defScope s_Machine_rows) (by decide +kernel))
          (fun _ _ _ _ _ => pg_name (i := 1) sc_Machine_rows.nd rfl (by first | exact Or.inl rfl | exact Or.inr rfl)) (fun _ _ _ _ _ => pts_nil)
          (fun _ _ _ _ _ => (pe_callTy (call_list_ofK (K := K) rfl) (by rfl) T.b_list PyProof.Rows.boot_list (pa_cons (pv 1) pa_nil))))), ?_⟩
    refine ⟨_, rfl, a, T.C_Machine, dx, _, _, rfl, hat, T.cl_Machine, T.n_Machine_own_rows, rfl, r, rfl, ⟨_, hST⟩, fun D nD => ?_⟩
    refine lc_dp (walk_tup (xs := ys)) (fun i acc H' => Same H H' ∧ acc.length = i ∧ ∀ (j : Nat) (x : V), acc[j]? = some x → ∃ q, x = .ref q ∧ H q = none ∧ q ≠ D ∧ H' q = some (.lst (nV (M14.row R j)))) (sz (by omega)) (fun i acc H' p => Nat.le_of_eq p.2.1) nD ⟨Same.refl _, rfl, fun j x e => by simp at e⟩ (fun i acc H' p _ => sqT_same hST (p.1.trans (del_same _ _))) (fun i y Hh H' acc C N hi p hD yy c n => ?_) (fun H5 xs' hD5 p => ?_)
    · obtain ⟨rfl, hy⟩ := yy
      obtain ⟨sm, hlen, hacc⟩ := p
      obtain ⟨d, hd, hdp⟩ := dpAll_back hAll hy
      rw [List.getElem?_map] at hd
      obtain ⟨rr, hr2, rfl⟩ := Option.map_eq_some_iff.mp hd
      obtain ⟨pa, zs, rfl, hS2, hA2⟩ := dp_tuple hdp
      rw [dpAll_nats hA2] at hS2
      have sH := sm.trans (del_same _ _)
      refine ⟨rfl, yes_te ⟨_, rfl, pa, nV rr, rfl, .inr (sqT_same hS2 sH), fun l nl => ?_⟩⟩
      have nlD : l ≠ D := fun e => by rw [e, hD] at nl; cases nl
      refine c _ _ (by rw [upd_ne nlD.symm]; exact hD) ⟨same_del (same_up sH (sH.free nl)) nD, by rw [List.length_append, hlen]; rfl, fun j x e => ?_⟩
      by_cases hj : j < acc.length
      · rw [List.getElem?_append_left hj] at e
        obtain ⟨q1, e1, n1, n2, e2⟩ := hacc j x e
        refine ⟨q1, e1, n1, n2, ?_⟩
        rw [del_ne n2] at e2
        rw [del_ne n2, upd_ne (ne_of_none e2 nl)]
        exact e2
      · have hj2 : j = i := by
          have := (List.getElem?_eq_some_iff.mp e).1
          rw [List.length_append, List.length_singleton] at this
          omega
        subst hj2
        rw [List.getElem?_append_right (by omega), hlen, Nat.sub_self] at e
        cases e
        exact ⟨l, rfl, sH.free nl, nlD, by rw [del_ne nlD, upd_same, M14.row_get hr2]⟩
    · obtain ⟨sm, hlen, hacc⟩ := p
      refine q _ D (sm.trans (del_same _ _)) nD ⟨xs', hD5, by rw [hlen, hyl], fun i x e => ?_⟩
      obtain ⟨q1, e1, n1, n2, e2⟩ := hacc i x e
      exact ⟨q1, e1, n1, n2, del_same _ _ _ _ e2⟩
theorem all_in {sg t : List Nat} (h : ∀ c ∈ t, c ∈ sg) : (t.all fun c => decide (c ∈ sg)) = true := by
  rw [List.all_eq_true]; exact fun c hc => decide_eq_true (h c hc)
def spWantText : Sp := fun vs H Q _ => ∃ sg t, vs = [tx sg, tx t] ∧ t.length ≤ 1000 ∧ (∀ c ∈ t, c ∈ sg) ∧ ∀ H', Same H H' → Q .non H'
theorem ok_want_text (T : All K mg) : FnOk P w K mg base CX0 2 T.f_want_text T.d_want_text ["letters", "text"] spWantText := by
  refine T.want_text.F.ok sc_want_text (fun vs H Q E h => ?_) (fun cdv A outer s H vs Q E hr h => ?_)
  · obtain ⟨sg, t, rfl, _⟩ := h
    rfl
  · obtain ⟨sg, t, rfl, hz, ht, q⟩ := h
    refine ⟨_, pss_one (ps_if (pt_not (pt_val (pe_call (ok_is_text_over T) (hr.mono (by decide)) (by rfl) T.is_text_over.g T.is_text_over.F.kp T.is_text_over.b .nil pass0 (pa_cons (pv 0) (pa_cons (pv 1) pa_nil))))) (pss_one ps_never) pss_nil), ?_⟩
    refine ⟨_, rfl, _, rfl, sg, tx t, rfl, .inl ⟨t, rfl, hz, fun H1 s1 => ⟨true, ?_, iteF (q _ s1)⟩⟩⟩
    rw [all_in ht]
def spWantPlace (K : PySem.W.Frag) (C : Addr) : Sp := fun vs H Q _ => ∃ (a : Addr) (p : Nat) (sg : List Nat) (R : List (List Nat)) (k : List Bool), vs = [.ref a, .int (p : Int)] ∧ Mach C K H a sg R k ∧ p < R.length ∧ Q .non H
theorem ok_want_place (T : All K mg) : FnOk P w K mg base CX0 2 T.f_want_place T.d_want_place ["machine", "place"] (spWantPlace K T.C_Machine) := by
  refine T.want_place.F.ok sc_want_place (fun vs H Q E h => ?_) (fun cdv A outer s H vs Q E hr h => ?_)
  · obtain ⟨a, p, sg, R, k, rfl, _⟩ := h
    rfl
  · obtain ⟨a, p, sg, R, k, rfl, hM, hp, q⟩ := h
    obtain ⟨dx, r, qq, hat, hr1, hk1⟩ := hM.at_
    obtain ⟨xs, hS, hl⟩ := (rw_dTR hr1).sq
    obtain ⟨r', e, hS'⟩ := hS
    cases e
    refine ⟨_, pss_one (ps_if (PW.pt (pw_or (pt_not (pt_val (pe_call (ok_is_integer T) (hr.mono (by decide)) (by rfl) T.is_integer.g T.is_integer.F.kp T.is_integer.b .nil pass0 (pa_cons (pv 1) pa_nil)))) (pw_or1 (pt_not (pt_chain op_le op_lt pe_int (pv 1) (pe_callB call_len_seq (by rfl) T.b_len PySem.boot_len (pa_cons (pe_fld (pv 0) rfl) pa_nil))))))) (pss_one ps_never) pss_nil), ?_⟩
    refine ⟨_, rfl, _, rfl, true, rfl, iteF ?_⟩
    refine ⟨_, rfl, _, _, rfl, rfl, _, rfl, ite_t (decide_eq_true (by omega)) ?_⟩
    refine ⟨_, rfl, a, T.C_Machine, dx, _, _, rfl, hat, T.cl_Machine, T.n_Machine_own_rows, rfl, r, xs, rfl, hS', _, _, rfl, rfl, true, ?_, iteF q⟩
    exact congrArg V.bl (decide_eq_true (by omega))
def spLed (K : PySem.W.Frag) (C : Addr) : Sp := fun vs H Q _ => ∃ (a : Addr) (p : Nat) (t sg : List Nat) (R : List (List Nat)) (k : List Bool), vs = [.ref a, .int (p : Int), tx t] ∧ Mach C K H a sg R k ∧ p < R.length ∧ (∀ c ∈ t, c ∈ sg) ∧ Q (.int ((M14.led sg R p t : Nat) : Int)) H
theorem ok_led (T : All K mg) : FnOk P w K mg base CX0 1 T.f_led T.d_led ["machine", "place", "text"] (spLed K T.C_Machine) := by
  refine T.led.F.ok sc_led (fun vs H Q E h => ?_) (fun cdv A outer s H vs Q E hr h => ?_)
  · obtain ⟨a, p, t, sg, R, k, rfl, _⟩ := h
    rfl
  · obtain ⟨a, p, t, sg, R, k, rfl, hM, hp, ht, q⟩ := h
    obtain ⟨dx, r, qq, hat, hr1, hk1⟩ := hM.at_
    obtain ⟨ra, ys, e2, hST, hAll⟩ := dp_tuple hr1
    cases e2
    refine ⟨_, pss_cons (ps_set (i := 3) sc_led.nd rfl (by first | exact Or.inl rfl | exact Or.inr rfl) (pv 1))
      (pss_cons (ps_for PassesOwn.never rfl (pi_str (pv 2)) (pg_name (i := 4) sc_led.nd rfl (by first | exact Or.inl rfl | exact Or.inr rfl))
        (pss_one (ps_set (i := 3) sc_led.nd rfl (by first | exact Or.inl rfl | exact Or.inr rfl) (pe_ix ix_tup (pe_ix ix_tup (pe_fld (pv 0) rfl) (pv 3) (fun _ _ => rfl)) (pe_bm PySem.F.plainAttrs_str PySem.F.slot_str_index PySem.F.type_str_index mt_indexT (pe_fld (pv 0) rfl) (pa_cons (pv 4) pa_nil)) (fun _ _ => rfl)))))
      (pss_one (ps_ret (pv 3)))), ?_⟩
    refine ⟨_, rfl, _, rfl, tS t, rfl, for_it walk_tx (fun i σ H' => ∃ c, σ = [some (.ref a), some (.int (p : Int)), some (tx t), some (.int ((M14.led sg R p (t.take i) : Nat) : Int)), c] ∧ H' = H) ⟨none, rfl, rfl⟩ (fun _ _ _ _ _ => trivial) (fun i x σ H1 H2 hi pp y => ?_) (fun σ H' pp => ?_)⟩
    · obtain ⟨c0, rfl, rfl⟩ := pp
      obtain ⟨rfl, c, hc, rfl⟩ := y
      have hcs := ht c (List.mem_of_getElem? hc)
      have hlt : M14.led sg R p (t.take i) < R.length := M14.led_lt hM.good.toSht hp fun x hx => ht x (List.mem_of_mem_take hx)
      obtain ⟨g, hg, hgl, hgd⟩ := M14.led_step hM.good.toSht hlt hcs
      obtain ⟨y, hy, hdy⟩ := dpAll_get hAll (i := M14.led sg R p (t.take i)) (d := .tuple (dN (M14.row R (M14.led sg R p (t.take i))))) (by rw [List.getElem?_map, M14.row_at hlt]; rfl)
      obtain ⟨ya, zs, rfl, hSy, hAy⟩ := dp_tuple hdy
      rw [dpAll_nats hAy] at hSy
      refine ⟨_, rfl, a, T.C_Machine, dx, _, _, rfl, hat, T.cl_Machine, T.n_Machine_own_rows, rfl, _, rfl, r, ys, _, _, rfl, rfl, hST, atI_nat hy, ?_⟩
      refine ⟨_, rfl, a, T.C_Machine, dx, _, _, rfl, hat, T.cl_Machine, T.n_Machine_own_letters, rfl, rfl, _, rfl, sg, c, rfl, rfl, hcs, ?_⟩
      refine ⟨ya, _, _, _, rfl, rfl, hSy, atI_nat (nV_get hg), some (tx [c]), ?_, rfl⟩
      rw [List.take_add_one, hc]
      show _ = [_, _, _, some (V.int ((M14.led sg R p (t.take i ++ [c]) : Nat) : Int)), _]
      rw [M14.led_snoc, hgd]
      rfl
    · obtain ⟨c0, rfl, rfl⟩ := pp
      rw [List.take_length]
      exact ⟨_, rfl, q⟩
def spTaken (K : PySem.W.Frag) (C : Addr) : Sp := fun vs H Q _ => ∃ (a : Addr) (t sg : List Nat) (R : List (List Nat)) (k : List Bool), vs = [.ref a, tx t] ∧ Mach C K H a sg R k ∧ (∀ c ∈ t, c ∈ sg) ∧ Q (.bl (M14.kAt k (M14.led sg R 0 t))) H
theorem ok_is_taken (T : All K mg) : FnOk P w K mg base CX0 2 T.f_is_taken T.d_is_taken ["machine", "text"] (spTaken K T.C_Machine) := by
  refine T.is_taken.F.ok sc_is_taken (fun vs H Q E h => ?_) (fun cdv A outer s H vs Q E hr h => ?_)
  · obtain ⟨a, t, sg, R, k, rfl, _⟩ := h
    rfl
  · obtain ⟨a, t, sg, R, k, rfl, hM, ht, q⟩ := h
    obtain ⟨dx, r, qq, hat, hr1, hk1⟩ := hM.at_
    refine ⟨_, pss_one (ps_ret (pe_ix ix_tup (pe_fld (pv 0) rfl) (pe_call (ok_led T) (hr.mono (by decide)) (by rfl) T.led.g T.led.F.kp T.led.b .nil pass0 (pa_cons (pv 0) (pa_cons pe_int (pa_cons (pv 1) pa_nil)))) (fun _ _ => rfl))), ?_⟩
    refine ⟨_, rfl, a, T.C_Machine, dx, _, _, rfl, hat, T.cl_Machine, T.n_Machine_own_kinds, rfl, _, rfl, _, rfl, a, 0, t, sg, R, k, rfl, hM, hM.good.ne, ht, ?_⟩
    refine ⟨qq, _, _, _, rfl, rfl, hk1, atI_nat (kAt_get ?_), q⟩
    rw [hM.good.kin]
    exact M14.led_lt hM.good.toSht hM.good.ne ht
end
end Lw
namespace Lw
open PySem PySem.Spec PyProof.Rows L3
open L2 hiding del del_same del_ne
section
variable {P : Program} {w : World} {K : PySem.W.Frag} {mg : Str → Option Value} {base : Heap}
def spGoes (K : PySem.W.Frag) (C : Addr) : Sp := fun vs H Q _ => ∃ (a : Addr) (p : Nat) (t sg : List Nat) (R : List (List Nat)) (k : List Bool), vs = [.ref a, .int (p : Int), tx t] ∧ Mach C K H a sg R k ∧ p < R.length ∧ t.length ≤ 1000 ∧ (∀ c ∈ t, c ∈ sg) ∧ ∀ H', Same H H' → Q (.int ((M14.led sg R p t : Nat) : Int)) H'
theorem ok_Machine_goes (T : All K mg) : FnOk P w K mg base CX0 3 T.f_Machine_goes T.d_Machine_goes ["self", "place", "text"] (spGoes K T.C_Machine) := by
  refine T.Machine_goes.F.ok sc_Machine_goes (fun vs H Q E h => ?_) (fun cdv A outer s H vs Q E hr h => ?_)
  · obtain ⟨a, p, t, sg, R, k, rfl, _⟩ := h
    rfl
  · obtain ⟨a, p, t, sg, R, k, rfl, hM, hp, hz, ht, q⟩ := h
    obtain ⟨dx, r, qq, hat, hr1, hk1⟩ := hM.at_
    refine ⟨_, pss_cons (ps_expr (pe_call (ok_want_place T) (hr.mono (by decide)) (by rfl) T.want_place.g T.want_place.F.kp T.want_place.b .nil pass0 (pa_cons (pv 0) (pa_cons (pv 1) pa_nil))))
      (pss_cons (ps_expr (pe_call (ok_want_text T) (hr.mono (by decide)) (by rfl) T.want_text.g T.want_text.F.kp T.want_text.b .nil pass0 (pa_cons (pe_fld (pv 0) rfl) (pa_cons (pv 2) pa_nil))))
      (pss_one (ps_ret (pe_call (ok_led T) (hr.mono (by decide)) (by rfl) T.led.g T.led.F.kp T.led.b .nil pass0 (pa_cons (pv 0) (pa_cons (pv 1) (pa_cons (pv 2) pa_nil))))))), ?_⟩
    refine ⟨_, rfl, _, rfl, a, p, sg, R, k, rfl, hM, hp, ?_⟩
    refine ⟨_, rfl, a, T.C_Machine, dx, _, _, rfl, hat, T.cl_Machine, T.n_Machine_own_letters, rfl, _, rfl, sg, t, rfl, hz, ht, fun H1 s1 => ?_⟩
    exact ⟨_, rfl, _, rfl, _, rfl, a, p, t, sg, R, k, rfl, hM.same s1, hp, ht, q _ s1⟩
def spTakes (K : PySem.W.Frag) (C : Addr) : Sp := fun vs H Q _ => ∃ (a : Addr) (t sg : List Nat) (R : List (List Nat)) (k : List Bool), vs = [.ref a, tx t] ∧ Mach C K H a sg R k ∧ t.length ≤ 1000 ∧ (∀ c ∈ t, c ∈ sg) ∧ ∀ H', Same H H' → Q (.bl (M14.kAt k (M14.led sg R 0 t))) H'
theorem ok_Machine_takes (T : All K mg) : FnOk P w K mg base CX0 3 T.f_Machine_takes T.d_Machine_takes ["self", "text"] (spTakes K T.C_Machine) := by
  refine T.Machine_takes.F.ok sc_Machine_takes (fun vs H Q E h => ?_) (fun cdv A outer s H vs Q E hr h => ?_)
  · obtain ⟨a, t, sg, R, k, rfl, _⟩ := h
    rfl
  · obtain ⟨a, t, sg, R, k, rfl, hM, hz, ht, q⟩ := h
    obtain ⟨dx, r, qq, hat, hr1, hk1⟩ := hM.at_
    refine ⟨_, pss_cons (ps_expr (pe_call (ok_want_text T) (hr.mono (by decide)) (by rfl) T.want_text.g T.want_text.F.kp T.want_text.b .nil pass0 (pa_cons (pe_fld (pv 0) rfl) (pa_cons (pv 1) pa_nil))))
      (pss_one (ps_ret (pe_call (ok_is_taken T) (hr.mono (by decide)) (by rfl) T.is_taken.g T.is_taken.F.kp T.is_taken.b .nil pass0 (pa_cons (pv 0) (pa_cons (pv 1) pa_nil))))), ?_⟩
    refine ⟨_, rfl, a, T.C_Machine, dx, _, _, rfl, hat, T.cl_Machine, T.n_Machine_own_letters, rfl, _, rfl, sg, t, rfl, hz, ht, fun H1 s1 => ?_⟩
    exact ⟨_, rfl, _, rfl, a, t, sg, R, k, rfl, hM.same s1, ht, q _ s1⟩
def spIn (K : PySem.W.Frag) (C : Addr) : Sp := fun vs H Q _ => ∃ (a : Addr) (v : V) (sg : List Nat) (R : List (List Nat)) (k : List Bool), vs = [.ref a, v] ∧ Mach C K H a sg R k ∧
  ((∃ t, v = tx t ∧ t.length ≤ 1000 ∧ ∀ H', Same H H' → Q (.bl ((t.all fun c => decide (c ∈ sg)) && M14.kAt k (M14.led sg R 0 t))) H') ∨ ∃ ty, TyX K H v (.type ty) ∧ kitB ty "str" = some false ∧ Q (.bl false) H)
theorem ok_Machine_contains (T : All K mg) : FnOk P w K mg base CX0 3 T.f_Machine_contains T.d_Machine_contains ["self", "value"] (spIn K T.C_Machine) := by
  refine T.Machine_contains.F.ok sc_Machine_contains (fun vs H Q E h => ?_) (fun cdv A outer s H vs Q E hr h => ?_)
  · obtain ⟨a, v, sg, R, k, rfl, _⟩ := h
    rfl
  · obtain ⟨a, v, sg, R, k, rfl, hM, hh⟩ := h
    obtain ⟨dx, r, qq, hat, hr1, hk1⟩ := hM.at_
    refine ⟨_, pss_one (ps_ret (pe_and (pe_call (ok_is_text_over T) (hr.mono (by decide)) (by rfl) T.is_text_over.g T.is_text_over.F.kp T.is_text_over.b .nil pass0 (pa_cons (pe_fld (pv 0) rfl) (pa_cons (pv 1) pa_nil)))
        (pe_one (pe_call (ok_is_taken T) (hr.mono (by decide)) (by rfl) T.is_taken.g T.is_taken.F.kp T.is_taken.b .nil pass0 (pa_cons (pv 0) (pa_cons (pv 1) pa_nil)))))), ?_⟩
    refine ⟨_, rfl, a, T.C_Machine, dx, _, _, rfl, hat, T.cl_Machine, T.n_Machine_own_letters, rfl, _, rfl, sg, v, rfl, ?_⟩
    rcases hh with ⟨t, rfl, hz, q⟩ | ⟨ty, hty, hk, q⟩
    · refine .inl ⟨t, rfl, hz, fun H1 s1 => ⟨_, rfl, ?_⟩⟩
      by_cases ht : ∀ c ∈ t, c ∈ sg
      · rw [all_in ht]
        refine iteT ⟨_, rfl, _, rfl, a, t, sg, R, k, rfl, hM.same s1, ht, ?_⟩
        have := q _ s1
        rw [all_in ht] at this
        exact this
      · have e : (t.all fun c => decide (c ∈ sg)) = false := by
          rw [← Bool.not_eq_true]
          intro z
          exact ht fun c hc => of_decide_eq_true (List.all_eq_true.mp z c hc)
        rw [e]
        refine iteF ?_
        have := q _ s1
        rw [e] at this
        exact this
    · exact .inr ⟨ty, hty, hk, false, rfl, iteF q⟩
end
end Lw
namespace Lw
open PySem PySem.Spec PyProof.Rows L3
open L2 hiding del del_same del_ne
theorem shownLen {d : PyData} {w k : Nat} (h : Wt d w k) : d.shown.length ≤ 12 * w + 10 := by
  have h1 := PyData.shown_le 10 (by decide) d h.l
  have h2 := h.w
  have h3 : (10 + 2) * d.weight ≤ 12 * w := Nat.mul_le_mul_left 12 h2
  omega
theorem wt_dLR {n : Nat} {R : List (List Nat)} {k : List Bool} (h : M14.Sht n R k) (hn : n ≤ 3) : Wt (dLR R) 3760 2 := by
  refine (Wt.list (w := 93) (k := 1) (n := 40) (fun d hd => ?_) (by rw [List.length_map]; exact h.few)).mono (by decide) (by decide)
  obtain ⟨r, hr, rfl⟩ := List.mem_map.mp hd
  obtain ⟨i, hi⟩ := List.mem_iff_getElem?.mp hr
  have hlt := (List.getElem?_eq_some_iff.mp hi).1
  refine Wt.nats (n := 3) (fun c hc => ?_) (by rw [h.len r hr]; exact hn)
  have := h.val i hlt c (by rw [M14.row_get hi]; exact hc)
  have := h.few
  omega
theorem wt_dTR {n : Nat} {R : List (List Nat)} {k : List Bool} (h : M14.Sht n R k) (hn : n ≤ 3) : Wt (dTR R) 3760 2 := by
  refine (Wt.tuple (w := 93) (k := 1) (n := 40) (fun d hd => ?_) (by rw [List.length_map]; exact h.few)).mono (by decide) (by decide)
  obtain ⟨r, hr, rfl⟩ := List.mem_map.mp hd
  obtain ⟨i, hi⟩ := List.mem_iff_getElem?.mp hr
  have hlt := (List.getElem?_eq_some_iff.mp hi).1
  refine Wt.natsT (n := 3) (fun c hc => ?_) (by rw [h.len r hr]; exact hn)
  have := h.val i hlt c (by rw [M14.row_get hi]; exact hc)
  have := h.few
  omega
theorem wt_sg {sg : List Nat} (h : Lets sg) : Wt (.str (tS sg)) 3 0 := Wt.text (fun c hc => by have := h.az c hc; omega) h.few
theorem wt_kinds {n : Nat} {R : List (List Nat)} {k : List Bool} (h : M14.Sht n R k) : Wt (.list (dB k)) 40 1 := Wt.bools (by rw [h.kin]; exact h.few)
theorem wt_kindsT {n : Nat} {R : List (List Nat)} {k : List Bool} (h : M14.Sht n R k) : Wt (.tuple (dB k)) 40 1 := Wt.boolsT (by rw [h.kin]; exact h.few)
/-- how a machine is shown -/
def spk (sg : List Nat) (R : List (List Nat)) (k : List Bool) : Str :=
  ((((("Machine(" : Str) ++ reprText (tS sg)) ++ (", " : Str)) ++ (dLR R).shown) ++ (", " : Str)) ++ (PyData.list (dB k)).shown ++ (")" : Str)
theorem eqv_rows (R S : List (List Nat)) : PyData.eqv (dTR R) (dTR S) = decide (R = S) := by
  show PyData.eqvAll _ _ = _
  exact eqv_map (fun r => PyData.tuple (dN r)) (fun a b => by show PyData.eqvAll _ _ = _; exact eqv_dN a b) R S
theorem dp_bools {K : PySem.W.Frag} {H : Hp} : ∀ k : List Bool, DpAll K H (k.map V.bl) (dB k)
  | [] => .nil
  | b :: k => .cons (.bl b) (dp_bools k)
section
variable {P : Program} {w : World} {K : PySem.W.Frag} {mg : Str → Option Value} {base : Heap}
theorem ty_mach (T : All K mg) {H : Hp} {a : Addr} {sg : List Nat} {R : List (List Nat)} {k : List Bool} (h : Mach T.C_Machine K H a sg R k) : TyX K H (.ref a) (.ref T.C_Machine) := by
  obtain ⟨dx, r, qq, hat, _⟩ := h.at_
  exact .base (.ins hat T.cl_Machine T.ca_Machine T.cg_Machine T.ct_Machine (mro_obj T.mk_Machine))
theorem kit_own (T : All K mg) : PySem.W.kitOne K (.ref T.C_Machine) (.ref T.C_Machine) = some true := if_pos (beq_self_eq_true _)
theorem kit_plain (T : All K mg) {ty : String} (h : plainTy ty = true) : PySem.W.kitOne K (.type ty) (.ref T.C_Machine) = some false := by
  unfold PySem.W.kitOne
  rw [if_neg (by simp)]
  unfold PySem.W.kitCls
  obtain ⟨cd, hc, _⟩ := PySem.W.any_some T.cl_Machine.hd
  have e : ((PySem.W.clsIn K T.C_Machine).isSome && PySem.W.typeIn K (.ref T.C_Machine) == some (.type "type")) = true := by
    rw [hc, T.tt_Machine]
    simp
  simp only []
  rw [if_pos e]
  exact sub_plain h
def spEqM (K : PySem.W.Frag) (C : Addr) : Sp := fun vs H Q _ => ∃ (a : Addr) (v : V) (sg : List Nat) (R : List (List Nat)) (k : List Bool), vs = [.ref a, v] ∧ Mach C K H a sg R k ∧
  ((∃ (b : Addr) (sg' : List Nat) (R' : List (List Nat)) (k' : List Bool), v = .ref b ∧ Mach C K H b sg' R' k' ∧ Q (.bl (decide (sg = sg') && (decide (R = R') && decide (k = k')))) H) ∨ ∃ ty, TyX K H v (.type ty) ∧ plainTy ty = true ∧ Q (.bl false) H)
theorem ok_Machine_eq (T : All K mg) : FnOk P w K mg base CX0 1 T.f_Machine_eq T.d_Machine_eq ["self", "other"] (spEqM K T.C_Machine) := by
  refine T.Machine_eq.F.ok sc_Machine_eq (fun vs H Q E h => ?_) (fun cdv A outer s H vs Q E hr h => ?_)
  · obtain ⟨a, v, sg, R, k, rfl, _⟩ := h
    rfl
  · obtain ⟨a, v, sg, R, k, rfl, hM, hh⟩ := h
    obtain ⟨dx, r, qq, hat, hr1, hk1⟩ := hM.at_
    refine ⟨_, pss_cons (ps_if (PW.pt (pw_or (pt_not (pt_val (pe_callB call_isi (by rfl) T.b_isinstance boot_isinstance (pa_cons (pv 1) (pa_cons (pe_glob (v := .ref T.C_Machine) rfl T.g_Machine rfl) pa_nil))))) (pw_or1 (pt_cmpR op_ne (pe_fld (pv 0) rfl) (pe_fld (pv 1) rfl) (nomark _))))) (pss_one (ps_ret pe_bl)) pss_nil)
      (pss_one (ps_ret (pe_and (pe_cmpR (op_eqD (u64 hr)) (pe_fld (pv 0) rfl) (pe_fld (pv 1) rfl) (by rfl))
        (pe_one (pe_cmpR (op_eqD (u64 hr)) (pe_fld (pv 0) rfl) (pe_fld (pv 1) rfl) (by rfl)))))), ?_⟩
    rcases hh with ⟨b, sg', R', k', rfl, hM', q⟩ | ⟨ty, hty, hp, q⟩
    · obtain ⟨dx', r', qq', hat', hr1', hk1'⟩ := hM'.at_
      refine ⟨_, rfl, _, .ref T.C_Machine, .ref T.C_Machine, .ref T.C_Machine, true, rfl, .own _, ty_mach T hM', kit_own T, true, rfl, iteF ?_⟩
      refine ⟨_, rfl, a, T.C_Machine, dx, _, _, rfl, hat, T.cl_Machine, T.n_Machine_own_letters, rfl, _, rfl, b, T.C_Machine, dx', _, _, rfl, hat', T.cl_Machine, T.n_Machine_own_letters, rfl, rfl, _, rfl, ?_⟩
      rw [tx_dec]
      by_cases e1 : sg = sg'
      · refine ite_f (by simp [e1]) ?_
        refine ⟨_, rfl, a, T.C_Machine, dx, _, _, rfl, hat, T.cl_Machine, T.n_Machine_own_rows, rfl, _, rfl, b, T.C_Machine, dx', _, _, rfl, hat', T.cl_Machine, T.n_Machine_own_rows, rfl, _, _, hr1, hr1', (wt_dTR hM.good.toSht hM.lets.few).shaped (by decide), (wt_dTR hM'.good.toSht hM'.lets.few).shaped (by decide), _, rfl, ?_⟩
        rw [eqv_rows]
        rw [decide_eq_true e1, Bool.true_and] at q
        by_cases e2 : R = R'
        · refine ite_t (decide_eq_true e2) ?_
          refine ⟨_, rfl, a, T.C_Machine, dx, _, _, rfl, hat, T.cl_Machine, T.n_Machine_own_kinds, rfl, _, rfl, b, T.C_Machine, dx', _, _, rfl, hat', T.cl_Machine, T.n_Machine_own_kinds, rfl, .tuple (dB k), .tuple (dB k'), .tup hk1 (dp_bools k), .tup hk1' (dp_bools k'), (wt_kindsT hM.good.toSht).shaped (by decide), (wt_kindsT hM'.good.toSht).shaped (by decide), ?_⟩
          rw [decide_eq_true e2, Bool.true_and] at q
          have e : PyData.eqv (.tuple (dB k)) (.tuple (dB k')) = decide (k = k') := by show PyData.eqvAll _ _ = _; exact eqv_dB k k'
          rw [e]
          exact q
        · refine ite_f (decide_eq_false e2) ?_
          rw [decide_eq_false e2, Bool.false_and] at q
          exact q
      · refine ite_t (by simp [e1]) ?_
        rw [decide_eq_false e1, Bool.false_and] at q
        exact q
    · refine ⟨_, rfl, v, .ref T.C_Machine, .type ty, .ref T.C_Machine, false, rfl, .own _, hty, kit_plain T hp, false, rfl, iteT q⟩
def spRepr (K : PySem.W.Frag) (C : Addr) : Sp := fun vs H Q _ => ∃ (a : Addr) (sg : List Nat) (R : List (List Nat)) (k : List Bool), vs = [.ref a] ∧ Mach C K H a sg R k ∧ ∀ H', Same H H' → Q (.str (spk sg R k)) H'
theorem ok_Machine_repr (T : All K mg) : FnOkG P w K mg base CX0 2 T.f_Machine_repr T.d_Machine_repr ["self"] (spRepr K T.C_Machine) := by
  refine okG T.Machine_repr.F sc_Machine_repr (fun vs H Q E h => ?_) (fun cdv A outer s H vs Q E hr hG h => ?_)
  · obtain ⟨a, sg, R, k, rfl, _⟩ := h
    rfl
  · obtain ⟨a, sg, R, k, rfl, hM, q⟩ := h
    obtain ⟨dx, r, qq, hat, hr1, hk1⟩ := hM.at_
    have l1 : (reprText (tS sg)).length ≤ 46 := shownLen (wt_sg hM.lets)
    have l2 := shownLen (wt_dLR hM.good.toSht hM.lets.few)
    have l3 := shownLen (wt_kinds hM.good.toSht)
    have c1 : ("Machine(" : Str).length = 8 := by decide +kernel
    have c2 : (", " : Str).length = 2 := by decide +kernel
    have c3 : (")" : Str).length = 1 := by decide +kernel
    have c0 : Str.empty.length = 0 := rfl
    refine ⟨_, pss_one (ps_ret (pe_joined (PJ.cons pe_str (PJ.cons (pe_fmtR (pe_fld (pv 0) rfl)) (PJ.cons pe_str (PJ.cons (pe_fmtRD hr hG (pe_meth0 (pv 0) T.cl_Machine T.Machine_rows.m (ok_Machine_rows T) (hr.mono (by decide)) T.Machine_rows.b .nil pass0)) (PJ.cons pe_str (PJ.cons (pe_fmtRD hr hG (pe_meth0 (pv 0) T.cl_Machine T.Machine_kinds.m (ok_Machine_kinds T) (hr.mono (by decide)) T.Machine_kinds.b .nil pass0)) (PJ.cons pe_str PJ.nil))))))))), ?_⟩
    have z : ∀ n, n ≤ 100000 → n ≤ sizeLine := fun n h => sz h
    refine ⟨_, rfl, z _ (by rw [strLen_append]; omega), ?_⟩
    refine ⟨_, rfl, a, T.C_Machine, dx, _, _, rfl, hat, T.cl_Machine, T.n_Machine_own_letters, rfl, .inl ⟨_, rfl, z _ (by omega), _, rfl, z _ (by rw [strLen_append, strLen_append]; omega), ?_⟩⟩
    refine ⟨_, rfl, z _ (by rw [strLen_append, strLen_append, strLen_append]; omega), ?_⟩
    refine ⟨_, rfl, a, dx, _, rfl, hat, rfl, a, sg, R, k, rfl, hM, fun H1 p1 s1 n1 hnew => ?_⟩
    have sh1 := (wt_dLR hM.good.toSht hM.lets.few).shw (by decide) (by decide)
    refine ⟨p1, dLR R, rfl, hnew.dp, sh1.s, sh1.z, sh1.p, _, rfl, z _ (by rw [strLen_append, strLen_append, strLen_append, strLen_append]; omega), ?_⟩
    refine ⟨_, rfl, z _ (by rw [strLen_append, strLen_append, strLen_append, strLen_append, strLen_append]; omega), ?_⟩
    refine ⟨_, rfl, a, dx, _, rfl, s1 _ _ hat, rfl, a, sg, R, k, rfl, hM.same s1, fun p2 n2 => ?_⟩
    have sh2 := (wt_kinds hM.good.toSht).shw (by decide) (by decide)
    refine ⟨p2, .list (dB k), rfl, .lst (.inl (.inl upd_same)) (dp_bools k), sh2.s, sh2.z, sh2.p, _, rfl, z _ (by rw [strLen_append, strLen_append, strLen_append, strLen_append, strLen_append, strLen_append]; omega), ?_⟩
    refine ⟨_, rfl, z _ (by rw [strLen_append, strLen_append, strLen_append, strLen_append, strLen_append, strLen_append, strLen_append]; omega), ?_⟩
    have := q _ (same_up (o := .lst (k.map V.bl)) s1 (s1.free n2))
    unfold spk at this
    rw [← Str.empty_append ("Machine(" : Str)] at this
    exact this
end
end Lw
namespace Lw
open PySem PySem.Spec PyProof.Rows L3
open L2 hiding del del_same del_ne
/-- all but lists stays -/
def NL (H H' : Hp) : Prop := ∀ p o, H p = some o → (∀ xs, o ≠ .lst xs) → H' p = some o
theorem NL.same {H H' : Hp} (s : Same H H') : NL H H' := fun p o e _ => s p o e
theorem NL.trans {H H1 H2 : Hp} (a : NL H H1) (b : NL H1 H2) : NL H H2 := fun p o e n => b p o (a p o e n) n
theorem NL.upd {H : Hp} {p : Addr} {xs : List V} {o : HO} (h : H p = some (.lst xs)) : NL H (L2.upd H p o) := fun b u e n => by
  rw [upd_ne (ne_of e h fun z => n xs z)]; exact e
theorem sqT_nl {K : PySem.W.Frag} {H H' : Hp} {a : Addr} {xs : List V} (h : SqT K H a xs) (n : NL H H') : SqT K H' a xs := by
  rcases h with (h | ⟨o, h⟩) | h
  · exact .inl (.inl (n _ _ h (fun ps z => by cases z)))
  · exact .inl (.inr ⟨o, n _ _ h (fun ps z => by cases z)⟩)
  · exact .inr h
theorem dTR_nl {K : PySem.W.Frag} {H H' : Hp} {v : V} {R : List (List Nat)} (h : Dp K H v (dTR R)) (n : NL H H') : Dp K H' v (dTR R) := by
  obtain ⟨a, xs, rfl, hS, hA⟩ := dp_tuple h
  refine .tup (sqT_nl hS n) (dpAll_of (dpAll_len hA) fun i x d h1 h2 => ?_)
  obtain ⟨d', h3, h4⟩ := dpAll_back hA h1
  rw [h2] at h3
  cases h3
  rw [List.getElem?_map] at h2
  obtain ⟨r, _, rfl⟩ := Option.map_eq_some_iff.mp h2
  obtain ⟨b, ys, rfl, hS2, hA2⟩ := dp_tuple h4
  rw [dpAll_nats hA2] at hS2
  exact .tup (sqT_nl hS2 n) (dpAll_nV r)
theorem Mach.nl {C : Addr} {K : PySem.W.Frag} {H H' : Hp} {a : Addr} {sg : List Nat} {R : List (List Nat)} {k : List Bool} (h : Mach C K H a sg R k) (e : NL H H') : Mach C K H' a sg R k := by
  obtain ⟨⟨dx, r, q, h1, h2, h3⟩, h4, h5⟩ := h
  exact ⟨⟨dx, r, q, e _ _ h1 (fun ps z => by cases z), dTR_nl h2 e, sqT_nl h3 e⟩, h4, h5⟩
theorem make_ok {K : PySem.W.Frag} {C : Addr} {H : Hp} {sg : List Nat} {a b : V} {R : List (List Nat)} {k : List Bool} (hl : Lets sg) (hR : Rw K H a R) (hk : Sq K H b (k.map V.bl)) (hG : M14.Good sg.length R k) {x dx : Addr} (nx : H x = none) (ndx : H dx = none) {Qh : Hp → Prop} (q : ∀ H', Same H H' → Mach C K H' x sg R k → Qh H') :
    spInit K C [.ref x, tx sg, a, b] (L2.upd (L2.upd H dx (.own x)) x (.ins C dx [])) (fun v H2 => v = .non ∧ Qh H2) E0 := by
  have sU : Same H (L2.upd (L2.upd H dx (.own x)) x (.ins C dx [])) := same_up (same_upd ndx) nx
  exact ⟨x, dx, sg, a, b, R, k, rfl, upd_same, hl, hR.same sU, hk.same sU, hG, fun H' hk' hM' => ⟨rfl, q H' (Same.made nx ndx hk') hM'⟩⟩
theorem good_k {n : Nat} {R : List (List Nat)} {k k' : List Bool} (h : M14.Good n R k) (e : k'.length = k.length) : M14.Good n R k' := ⟨⟨h.ne, h.few, h.len, h.val, by rw [e]; exact h.kin⟩, h.all⟩
end Lw
namespace Lw
open PySem PySem.Spec PyProof.Rows L3
open L2 hiding del del_same del_ne
section
variable {P : Program} {w : World} {K : PySem.W.Frag} {mg : Str → Option Value} {base : Heap}
/-- a new machine -/
def NewM (K : PySem.W.Frag) (C : Addr) (H : Hp) (Q : VK) (sg : List Nat) (R : List (List Nat)) (k : List Bool) : Prop := ∀ H' x, Same H H' → H x = none → Mach C K H' x sg R k → Q (.ref x) H'
def spContrary (K : PySem.W.Frag) (C : Addr) : Sp := fun vs H Q _ => ∃ (a : Addr) (sg : List Nat) (R : List (List Nat)) (k : List Bool), vs = [.ref a] ∧ Mach C K H a sg R k ∧ NewM K C H Q sg R (k.map not)
theorem ok_contrary (T : All K mg) : FnOk P w K mg base CX0 6 T.f_contrary T.d_contrary ["machine"] (spContrary K T.C_Machine) := by
  refine T.contrary.F.ok sc_contrary (fun vs H Q E h => ?_) (fun cdv A outer s H vs Q E hr h => ?_)
  · obtain ⟨a, sg, R, k, rfl, _⟩ := h
    rfl
  · obtain ⟨a, sg, R, k, rfl, hM, q⟩ := h
    obtain ⟨dx, r, qq, hat, hr1, hk1⟩ := hM.at_
    have hGd := hM.good
    have hfew := hGd.few
    have hkin := hGd.kin
    have hrow := rw_dTR hr1
    refine ⟨_, pss_one (ps_ret (pe_make ⟨T.mk_Machine, T.Machine_init.m.at_, T.Machine_init.m.fn, T.kp_Machine⟩ (ok_Machine_init T) (hr.mono (by decide)) (by rfl) T.g_Machine T.Machine_init.b .nil pass0 (pa_cons (pe_fld (pv 0) rfl) (pa_cons (pe_fld (pv 0) rfl) (pa_cons (pe_lc (own := [("kind", 1)]) (g := gName 1) (tt := tYes) rfl sc_contrary.nd (pi_tup (pe_fld (pv 0) rfl))
          (blkOk_by (own := [("kind", 1)]) (N := ["machine", "kind"]) (sc := defScope s_contrary) (by decide +kernel))
          (fun _ _ _ _ _ => pg_name (i := 1) sc_contrary.nd rfl (by first | exact Or.inl rfl | exact Or.inr rfl)) (fun _ _ _ _ _ => pts_nil)
          (fun _ _ _ _ _ => (pe_not (pv 1)))) pa_nil))))), ?_⟩
    refine ⟨_, rfl, a, T.C_Machine, dx, _, _, rfl, hat, T.cl_Machine, T.n_Machine_own_letters, rfl, _, rfl, a, T.C_Machine, dx, _, _, rfl, hat, T.cl_Machine, T.n_Machine_own_rows, rfl, ?_⟩
    refine ⟨_, rfl, a, T.C_Machine, dx, _, _, rfl, hat, T.cl_Machine, T.n_Machine_own_kinds, rfl, qq, rfl, ⟨_, hk1⟩, fun D nD => ?_⟩
    refine lc_gen (walk_tup (xs := k.map V.bl)) (Same H) (fun i acc => acc = ((k.take i).map (!·)).map V.bl) (sz (by rw [List.length_map]; omega)) (fun i acc e => by rw [e, List.length_map, List.length_map, List.length_take]; omega) rfl (same_upd nD) (fun _ _ h => same_up h nD) (fun _ h => sqT_same hk1 h) (fun i x H1 H2 acc C N hi rs hD ha y c nn => ?_) (fun H1 ys s1 hD ha => ?_)
    · obtain ⟨rfl, y⟩ := y
      rw [List.getElem?_map] at y
      obtain ⟨kb, hkb, rfl⟩ := Option.map_eq_some_iff.mp y
      refine ⟨rfl, yes_te ⟨_, rfl, _, rfl, c _ _ rs hD ?_⟩⟩
      rw [ha, List.take_add_one, hkb, List.map_append, List.map_append]
      rfl
    subst ha
    rw [List.length_map, List.take_length] at hD
    intro m1 dx_m1 n_m1 nd_m1 _
    refine make_ok (k := k.map not) hM.lets (hrow.same s1) (sq_list (.inl (.inl hD))) (good_k hGd (by rw [List.length_map])) n_m1 nd_m1 (fun H2 s2 hM1 => ?_)
    exact q _ _ (s1.trans s2) (s1.free n_m1) hM1
theorem ok_Machine_invert (T : All K mg) : FnOk P w K mg base CX0 7 T.f_Machine_invert T.d_Machine_invert ["self"] (spContrary K T.C_Machine) := by
  refine T.Machine_invert.F.ok sc_Machine_invert (fun vs H Q E h => ?_) (fun cdv A outer s H vs Q E hr h => ?_)
  · obtain ⟨a, sg, R, k, rfl, _⟩ := h
    rfl
  · obtain ⟨a, sg, R, k, rfl, hM, q⟩ := h
    refine ⟨_, pss_one (ps_ret (pe_call (ok_contrary T) (hr.mono (by decide)) (by rfl) T.contrary.g T.contrary.F.kp T.contrary.b .nil pass0 (pa_cons (pv 0) pa_nil))), ?_⟩
    exact ⟨_, rfl, a, sg, R, k, rfl, hM, q⟩
end
end Lw
namespace L3
open PySem PySem.Spec PyProof.Rows L2
/-- an expression that is never reached -/
theorem pe_never {X : Cx} {e : Expr} : PE X e (fun _ _ _ => False) := ⟨fun _ _ _ _ _ _ h => h.elim⟩
def rStrA : List V → Hp → VK → Prop := fun xs H Q => (∃ i, xs = [.int i] ∧ i.natAbs.log2 < 1920 ∧ Q (.str (Str.ofString (toString i))) H) ∨ ∃ a, xs = [.str a] ∧ Q (.str a) H
theorem call_strA {X : Cx} : CallR X (.type "str") rStrA := by
  intro pins s σ H xs us Q I r h
  rcases h with h | h
  · exact call_str_int pins s σ H xs us Q I r h
  · exact SkE.call_str_str pins s σ H xs us Q I r h
/-- the bytes of these codes -/
def BytL (b : Array UInt8) (l : List Nat) : Prop := bi b = l.map fun c => ((c : Nat) : Int)
def rEncode (x : V) (xs : List V) (H : Hp) (Q : VK) : Prop := ∃ l : List Nat, x = tx l ∧ xs = [] ∧ (∀ c ∈ l, c < 128) ∧ l.length ≤ 100000 ∧ ∀ b : Array UInt8, BytL b l → b.size = l.length → Q (.byt b) H
theorem mt_encode {X : Cx} : MtR X "str.encode" rEncode := by
  intro pins s σ H x xs v us Q I rx rs h
  obtain ⟨l, rfl, rfl, ha, hz, q⟩ := h
  obtain ⟨t, rfl⟩ := rx
  cases rs
  refine PySem.W.KSb.encode_K (fun c hc => ha c hc) (by show l.toArray.size ≤ _; simp; omega) (fun c t' k e1 e2 e3 => ?_)
  have e4 : bi c = l.map fun c => ((c : Nat) : Int) := e1.trans (by simp [PySem.W.KSb.codes])
  refine ⟨.byt c, H, I.tok k, ⟨t', rfl⟩, q c e4 ?_⟩
  have := congrArg List.length e4
  rw [List.length_map] at this
  rw [← this]
  simp [PySem.W.KBw.bInts]
theorem slot_bytes_repr : Slot "bytes" "__repr__" "bytes.__repr__" :=
  .of (owner := "bytes") (n := "__repr__") (by rw [typeLookup_type, builtinLookup_eq_fast]; kernel_rfl) (by decide +kernel) (by decide +kernel) (by decide +kernel)
    (by first | exact .inl (by decide +kernel) | exact .inr (by decide +kernel)) (by rw [isSubtype_type]; kernel_rfl)
theorem entry_bytes_repr : entryFor table "bytes.__repr__" = some Builtin.«bytes.__repr__» := entryFor_of_tree (by kernel_rfl)
theorem args_bytes_repr_1 (a : Value) : argsOk "bytes.__repr__" ⟨[a], []⟩ := by
  unfold argsOk; rw [signature?_of (id := "bytes.__repr__") (n := "__repr__".toList.reverse) (o := ['s', 'e', 't', 'y', 'b']) (by kernel_rfl) PySem.W.FB.owner_bytes]; kernel_rfl
theorem gives_bytes_repr (b : Array UInt8) (t : Tok) (h : Builtin.Bytes.tooLong (4 * b.size + 3 + 0) = false) : Gives (Builtin.«bytes.__repr__» ⟨[.bytes b t], []⟩) (.str (Builtin.Bytes.literal b)) := by
  have e : Builtin.Bytes.literalAsked b = pure (Builtin.Bytes.literal b) := by
    unfold Builtin.Bytes.literalAsked
    rw [h]
    rfl
  refine .of_eq ?_
  show (do let r ← Builtin.Bytes.literalAsked b; retStr r) = _
  rw [e]
  rfl
theorem fold_pre {f : UInt8 → Array Nat} (p : Array Nat) : ∀ (l : List UInt8) (q : Array Nat), l.foldl (fun acc c => acc ++ f c) (p ++ q) = p ++ l.foldl (fun acc c => acc ++ f c) q
  | [], _ => rfl
  | c :: l, q => by
    rw [List.foldl_cons, List.foldl_cons, Array.append_assoc]
    exact fold_pre p l _
theorem fold_len {f : UInt8 → Array Nat} (hf : ∀ c, (f c).size ≤ 4) : ∀ (l : List UInt8) (q : Array Nat), (l.foldl (fun acc c => acc ++ f c) q).size ≤ q.size + 4 * l.length
  | [], q => by simp
  | c :: l, q => by
    rw [List.foldl_cons, List.length_cons]
    have h1 := fold_len hf l (q ++ f c)
    have h2 := hf c
    rw [Array.size_append] at h1
    omega
/-- how a byte is shown -/
def shB (c : UInt8) : Array Nat := if c.toNat == 39 || c.toNat == 92 then #[92, c.toNat] else if c.toNat == 9 then #[92, 116] else if c.toNat == 10 then #[92, 110] else if c.toNat == 13 then #[92, 114] else if c.toNat < 32 || c.toNat ≥ 127 then #[92, 120, (if c.toNat / 16 < 10 then 48 + c.toNat / 16 else 87 + c.toNat / 16), (if c.toNat % 16 < 10 then 48 + c.toNat % 16 else 87 + c.toNat % 16)] else #[c.toNat]
theorem shB_le (c : UInt8) : (shB c).size ≤ 4 := by
  unfold shB
  repeat' split
  all_goals simp
theorem literal_eq (b : Array UInt8) (h : b.contains 39 = false) : Builtin.Bytes.literal b = ⟨(b.foldl (fun acc c => acc ++ shB c) #[98, 39]).push 39⟩ := by
  unfold Builtin.Bytes.literal
  rw [h]
  rfl
theorem literal_pre (b : Array UInt8) (h : b.contains 39 = false) : ∃ l : List Nat, Builtin.Bytes.literal b = tS (98 :: 39 :: l) ∧ l.length ≤ 4 * b.size + 1 := by
  rw [literal_eq b h]
  refine ⟨((b.toList.foldl (fun acc c => acc ++ shB c) (#[] : Array Nat)).push 39).toList, ?_, ?_⟩
  · have e := fold_pre (f := shB) #[98, 39] b.toList #[]
    rw [Array.append_empty] at e
    rw [← Array.foldl_toList, e]
    refine congrArg Str.mk (Array.toList_inj.mp ?_)
    simp
  · have e := fold_len (f := shB) shB_le b.toList #[]
    rw [Array.length_toList] at e
    rw [Array.toList_push, List.length_append, Array.length_toList]
    simp at e ⊢
    omega
def rReprB (xs : List V) (H : Hp) (Q : VK) : Prop := ∃ b : Array UInt8, xs = [.byt b] ∧ b.size ≤ 100000 ∧ b.contains 39 = false ∧ ∀ l : List Nat, l.length ≤ 400001 → Q (tx (98 :: 39 :: l)) H
theorem call_reprB {X : Cx} : CallR X (.builtin "repr") rReprB := by
  intro pins s σ H xs us Q I r h
  obtain ⟨b, rfl, hz, hq, q⟩ := h
  obtain ⟨u, rfl, t, rfl⟩ := vals1 r
  obtain ⟨l, e, hl⟩ := literal_pre b hq
  refine call_repr_gives (T := "bytes") (show s.TypeIs (.bytes b t) "bytes" from rfl) slot_bytes_repr entry_bytes_repr (args_bytes_repr_1 _) (gives_bytes_repr b t ?_) ⟨tx (98 :: 39 :: l), H, I.tok _, ⟨_, by rw [e]⟩, q l (by omega)⟩ (hx := ?_)
  · unfold Builtin.Bytes.tooLong
    rw [sizeLine_eq]
    exact decide_eq_false (by omega)
  · rw [e]
    show (98 :: 39 :: l).toArray.size ≤ _
    rw [sizeLine_eq]
    simp
    omega
/-- a dict of the module at a -/
def KDic (K : PySem.W.Frag) (w : World) (a : Addr) : Prop := ∃ es n, KDict K w a es n
def rNotInKd (K : PySem.W.Frag) (w : World) : R2 := fun x y H Q => ∃ (z : Str) (d : Addr) (r : Option Value), x = .str z ∧ y = .ref d ∧ KDic K w d ∧ PySem.W.nsIn K d z = some r ∧ Q (.bl (!r.isSome)) H
theorem op_notInKd {X : Cx} : OpR X (compareOp .NotIn) (rNotInKd X.K X.w) := by
  intro pins s σ H x y v u Q I rx ry h
  obtain ⟨z, d, r, rfl, rfl, ⟨es, n, D⟩, e, q⟩ := h
  exact op_notIn_kd D pins s σ H _ _ v u Q I rx ry ⟨z, r, rfl, rfl, e, q⟩
theorem op_notInKdK {X : Cx} {K : PySem.W.Frag} {w : World} (h : X.K = K) (h2 : X.w = w) : OpR X (compareOp .NotIn) (rNotInKd K w) := h ▸ h2 ▸ op_notInKd
end L3
namespace M90
open PySem PySem.Spec PyProof.Rows L3
/-- the figures of a number below 100 -/
def dec (n : Nat) : List Nat := if n < 10 then [48 + n] else [48 + n / 10, 48 + n % 10]
def wd (b : Bool) : List Nat := if b then [121, 101, 115] else [110, 111]
def wLet : List Nat := [108, 101, 116, 116, 101, 114, 115]
def wTo : List Nat := [116, 111]
/-- words with blanks between them -/
abbrev jn (ws : List (List Nat)) : List Nat := TL.joinL [32] ws
/-- the words of a place's row -/
def words (b : Bool) (p : Nat) (r : List Nat) : List (List Nat) := wd b :: dec p :: wTo :: r.map dec
/-- the words of all rows -/
def rowW (R : List (List Nat)) (k : List Bool) (p : Nat) : List (List Nat) := words (M14.kAt k p) p (M14.row R p)
def allW (sg : List Nat) (R : List (List Nat)) (k : List Bool) : List (List (List Nat)) := [wLet, sg] :: (List.range R.length).map (rowW R k)
/-- the rows, without and with their ends -/
def rows (sg : List Nat) (R : List (List Nat)) (k : List Bool) : List (List Nat) := (allW sg R k).map jn
def endd (l : List Nat) : List Nat := l ++ [10]
def text (sg : List Nat) (R : List (List Nat)) (k : List Bool) : List Nat := ((rows sg R k).map endd).flatten
theorem dec_str : ∀ n, n < 60 → tS (dec n) = Str.ofString (toString ((n : Nat) : Int)) := by decide +kernel
theorem dec_int : ∀ n, n < 60 → PySem.intText? (tS (dec n)) = some ((n : Nat) : Int) := by decide +kernel
theorem dec_len (n : Nat) : 1 ≤ (dec n).length ∧ (dec n).length ≤ 2 := by
  unfold dec
  split <;> simp
theorem dec_fig {n : Nat} (h : n < 60) : ∀ c ∈ dec n, 48 ≤ c ∧ c ≤ 57 := by
  intro c hc
  unfold dec at hc
  split at hc
  · rw [List.mem_singleton.mp hc]; omega
  · simp only [List.mem_cons, List.not_mem_nil, or_false] at hc
    rcases hc with rfl | rfl <;> omega
theorem digits : (("0123456789" : Str)).cps.toList = (List.range 10).map (· + 48) := by decide +kernel
theorem digit_in {c : Nat} (h : 48 ≤ c ∧ c ≤ 57) : c ∈ (("0123456789" : Str)).cps.toList := by
  rw [digits]
  exact List.mem_map.mpr ⟨c - 48, List.mem_range.mpr (by omega), by omega⟩
theorem log_small {n : Nat} (h : n < 60) : Nat.log2 n < 1920 := by
  rcases Nat.eq_zero_or_pos n with rfl | h1
  · decide
  · exact Nat.lt_trans ((Nat.log2_lt (by omega)).mpr (show n < 2 ^ 6 by omega)) (by decide)
/-- a sign of a word: a small letter or a figure -/
def Sgn (c : Nat) : Prop := (97 ≤ c ∧ c ≤ 122) ∨ (48 ≤ c ∧ c ≤ 57)
theorem wd_sgn (b : Bool) : ∀ c ∈ wd b, Sgn c := by cases b <;> (intro c hc; simp [wd] at hc; unfold Sgn; omega)
theorem words_sgn {b : Bool} {p : Nat} {r : List Nat} (hp : p < 60) (hr : ∀ g ∈ r, g < 60) : ∀ w ∈ words b p r, ∀ c ∈ w, Sgn c := by
  intro w hw
  unfold words at hw
  simp only [List.mem_cons, List.mem_map] at hw
  rcases hw with rfl | rfl | rfl | ⟨g, hg, rfl⟩
  · exact wd_sgn b
  · exact fun c hc => .inr (dec_fig hp c hc)
  · intro c hc; simp [wTo] at hc; unfold Sgn; omega
  · exact fun c hc => .inr (dec_fig (hr g hg) c hc)
theorem jn_mem {ws : List (List Nat)} {c : Nat} : c ∈ jn ws → c = 32 ∨ ∃ w ∈ ws, c ∈ w := by
  unfold jn
  induction ws with
  | nil => intro h; exact nomatch h
  | cons p r ih =>
    cases r with
    | nil => intro h; exact .inr ⟨p, List.mem_cons_self, h⟩
    | cons q r =>
      intro h
      have h : c ∈ p ++ ([32] ++ TL.joinL [32] (q :: r)) := h
      rw [List.mem_append, List.mem_append, List.mem_singleton] at h
      rcases h with h | h | h
      · exact .inr ⟨p, List.mem_cons_self, h⟩
      · exact .inl h
      · rcases ih h with h | ⟨w, h1, h2⟩
        · exact .inl h
        · exact .inr ⟨w, List.mem_cons_of_mem _ h1, h2⟩
theorem jn_len (ws : List (List Nat)) (m : Nat) (h : ∀ w ∈ ws, w.length ≤ m) : (jn ws).length ≤ ws.length * (m + 1) := by
  unfold jn
  induction ws with
  | nil => simp [TL.joinL]
  | cons p r ih =>
    have h1 := h p List.mem_cons_self
    have h2 := ih fun w hw => h w (List.mem_cons_of_mem _ hw)
    cases r with
    | nil =>
      show p.length ≤ _
      simp
      omega
    | cons q r =>
      show (p ++ ([32] ++ TL.joinL [32] (q :: r))).length ≤ _
      rw [List.length_append, List.length_append, List.length_singleton, List.length_cons (a := p), Nat.add_mul]
      omega
/-- the whole text, split into its rows -/
theorem flat_join : ∀ ls : List (List Nat), (ls.map endd).flatten = TL.joinL [10] (ls ++ [[]])
  | [] => rfl
  | l :: ls => by
    rw [List.map_cons, List.flatten_cons, flat_join ls]
    have e : ∃ q r, ls ++ [[]] = q :: r := by cases ls <;> exact ⟨_, _, rfl⟩
    obtain ⟨q, r, e⟩ := e
    rw [List.cons_append, e]
    show endd l ++ TL.joinL [10] (q :: r) = l ++ ([10] ++ TL.joinL [10] (q :: r))
    unfold endd
    rw [List.append_assoc]
structure Ok (sg : List Nat) (R : List (List Nat)) (k : List Bool) : Prop where
  az : ∀ c ∈ sg, 97 ≤ c ∧ c ≤ 122
  ne : 0 < sg.length
  few : sg.length ≤ 3
  sht : M14.Sht sg.length R k
theorem Ok.rowlt {sg : List Nat} {R : List (List Nat)} {k : List Bool} (h : Ok sg R k) {p : Nat} (hp : p < R.length) : ∀ g ∈ M14.row R p, g < 40 := fun g hg => Nat.lt_of_lt_of_le (h.sht.val p hp g hg) h.sht.few
theorem Ok.words_sgn {sg : List Nat} {R : List (List Nat)} {k : List Bool} (h : Ok sg R k) : ∀ ws ∈ allW sg R k, ∀ w ∈ ws, ∀ c ∈ w, Sgn c := by
  intro ws hws
  unfold allW at hws
  rcases List.mem_cons.mp hws with rfl | hws
  · intro w hw
    simp only [List.mem_cons, List.not_mem_nil, or_false] at hw
    rcases hw with rfl | rfl
    · intro c hc; simp [wLet] at hc; unfold Sgn; omega
    · exact fun c hc => .inl (h.az c hc)
  · obtain ⟨p, hp, rfl⟩ := List.mem_map.mp hws
    have hp := List.mem_range.mp hp
    have := h.sht.few
    exact M90.words_sgn (by omega) fun g hg => by have := h.rowlt hp g hg; omega
theorem Ok.split {sg : List Nat} {R : List (List Nat)} {k : List Bool} (h : Ok sg R k) : TL.spl [10] 0 [] (text sg R k) = rows sg R k ++ [[]] := by
  unfold text
  rw [flat_join]
  refine TL.spl_join (by simp) fun l hl hc => ?_
  rcases List.mem_append.mp hl with hl | hl
  · unfold rows at hl
    obtain ⟨ws, hws, rfl⟩ := List.mem_map.mp hl
    rcases jn_mem hc with e | ⟨w, hw, hc⟩
    · exact absurd e (by decide)
    · have := h.words_sgn ws hws w hw 10 hc
      unfold Sgn at this
      omega
  · rw [List.mem_singleton.mp hl] at hc
    exact nomatch hc
theorem split_words {ws : List (List Nat)} (ne : ws ≠ []) (h : ∀ w ∈ ws, ∀ c ∈ w, Sgn c) : TL.spl [32] 0 [] (jn ws) = ws := by
  refine TL.spl_join ne fun w hw hc => ?_
  have := h w hw 32 hc
  unfold Sgn at this
  omega
theorem text_asc {sg : List Nat} {R : List (List Nat)} {k : List Bool} (h : Ok sg R k) : ∀ c ∈ text sg R k, c = 10 ∨ c = 32 ∨ Sgn c := by
  intro c hc
  unfold text at hc
  obtain ⟨l1, hl1, hc⟩ := List.mem_flatten.mp hc
  obtain ⟨l, hl, rfl⟩ := List.mem_map.mp hl1
  clear hl1
  unfold endd at hc
  rcases List.mem_append.mp hc with hc | hc
  · unfold rows at hl
    obtain ⟨ws, hws, rfl⟩ := List.mem_map.mp hl
    rcases jn_mem hc with e | ⟨w, hw, hc⟩
    · exact .inr (.inl e)
    · exact .inr (.inr (h.words_sgn ws hws w hw c hc))
  · exact .inl (List.mem_singleton.mp hc)
theorem words_few {sg : List Nat} {R : List (List Nat)} {k : List Bool} (h : Ok sg R k) : ∀ ws ∈ allW sg R k, ws.length ≤ 6 ∧ ∀ w ∈ ws, w.length ≤ 7 := by
  intro ws hws
  unfold allW at hws
  rcases List.mem_cons.mp hws with rfl | hws
  · refine ⟨by simp, fun w hw => ?_⟩
    simp only [List.mem_cons, List.not_mem_nil, or_false] at hw
    rcases hw with rfl | rfl
    · decide
    · have := h.few; omega
  · obtain ⟨p, hp, rfl⟩ := List.mem_map.mp hws
    have hp := List.mem_range.mp hp
    have h1 := h.sht.len _ (M14.row_mem hp)
    have h2 := h.few
    unfold rowW words
    refine ⟨by simp; omega, fun w hw => ?_⟩
    simp only [List.mem_cons, List.mem_map] at hw
    rcases hw with rfl | rfl | rfl | ⟨g, hg, rfl⟩
    · unfold wd; split <;> decide
    · have := (dec_len p).2; omega
    · decide
    · have := (dec_len g).2; omega
theorem row_few {sg : List Nat} {R : List (List Nat)} {k : List Bool} (h : Ok sg R k) : ∀ l ∈ rows sg R k, l.length ≤ 48 := by
  intro l hl
  unfold rows at hl
  obtain ⟨ws, hws, rfl⟩ := List.mem_map.mp hl
  obtain ⟨h1, h2⟩ := words_few h ws hws
  have h3 := jn_len ws 7 h2
  omega
theorem rows_len (sg : List Nat) (R : List (List Nat)) (k : List Bool) : (rows sg R k).length = R.length + 1 := by
  unfold rows allW
  simp
theorem flat_len (m : Nat) : ∀ ls : List (List Nat), (∀ l ∈ ls, l.length ≤ m) → (ls.map endd).flatten.length ≤ ls.length * (m + 1)
  | [], _ => by simp
  | l :: ls, h => by
    have h1 := h l List.mem_cons_self
    have h2 := flat_len m ls fun l hl => h l (List.mem_cons_of_mem _ hl)
    rw [List.map_cons, List.flatten_cons, List.length_append, List.length_cons, Nat.add_mul]
    unfold endd at *
    rw [List.length_append, List.length_singleton]
    omega
theorem text_few {sg : List Nat} {R : List (List Nat)} {k : List Bool} (h : Ok sg R k) : (text sg R k).length ≤ 2009 := by
  have h1 := flat_len 48 (rows sg R k) (row_few h)
  rw [rows_len] at h1
  have := h.sht.few
  unfold text
  omega
end M90
namespace Lw
open PySem PySem.Spec PyProof.Rows L3
open L2 hiding del del_same del_ne
/-- a word of a row: a text or a number -/
inductive Wd where
  | t (l : List Nat)
  | n (k : Nat)
def Wd.v : Wd → V
  | .t l => tx l
  | .n k => .int (k : Int)
def Wd.s : Wd → List Nat
  | .t l => l
  | .n k => M90.dec k
def Wd.ok : Wd → Prop
  | .t l => l.length ≤ 40
  | .n k => k < 60
theorem Wd.len {a : Wd} (h : a.ok) : a.s.length ≤ 40 := by
  cases a with
  | t l => exact h
  | n k => have := (M90.dec_len k).2; show (M90.dec k).length ≤ 40; omega
theorem join_w (ws : List (List Nat)) : Txt.join (" " : Str) (ws.map tS) = tS (M90.jn ws) := SX.join_S [32] ws
theorem sum_len (m : Nat) : ∀ ws : List (List Nat), (∀ w ∈ ws, w.length ≤ m) → ((ws.map tS).map (·.length)).sum ≤ ws.length * m
  | [], _ => by simp
  | w :: ws, h => by
    have h1 := h w List.mem_cons_self
    have h2 := sum_len m ws fun w hw => h w (List.mem_cons_of_mem _ hw)
    have h3 : (tS w).length = w.length := SX.S_len w
    rw [List.map_cons, List.map_cons, List.sum_cons, List.length_cons, Nat.add_mul, h3]
    omega
section
variable {P : Program} {w : World} {K : PySem.W.Frag} {mg : Str → Option Value} {base : Heap}
/-- what is known beside T -/
structure XF (w : World) (T : All K mg) : Prop where
  D : KDic K w T.A_KINDS
  y : PySem.W.nsIn K T.A_KINDS "yes" = some (some (.bool true))
  n : PySem.W.nsIn K T.A_KINDS "no" = some (some (.bool false))
  ns : PySem.W.kitOne K (.ref T.C_Machine) (.ref T.C_Sum) = some false
def spLineOf (K : PySem.W.Frag) : Sp := fun vs H Q _ => ∃ (p : Addr) (ws : List Wd), vs = [.ref p] ∧ SqL K H p (ws.map Wd.v) ∧ (∀ a ∈ ws, a.ok) ∧ ws.length ≤ 50 ∧ ∀ H', Same H H' → Q (tx (M90.endd (M90.jn (ws.map Wd.s)))) H'
theorem ok_line_of (T : All K mg) : FnOk P w K mg base CX0 1 T.f_line_of T.d_line_of ["words"] (spLineOf K) := by
  refine T.line_of.F.ok sc_line_of (fun vs H Q E h => ?_) (fun cdv A outer s H vs Q E hr h => ?_)
  · obtain ⟨p, ws, rfl, _⟩ := h
    rfl
  · obtain ⟨p, ws, rfl, hS, hok, hz, q⟩ := h
    refine ⟨_, pss_one (ps_ret (pe_op op_addT (pe_join pe_str (pe_lc (own := [("word", 1)]) (g := gName 1) (tt := tYes) rfl sc_line_of.nd (pi_list (pv 0))
          (blkOk_by (own := [("word", 1)]) (N := ["words", "word"]) (sc := defScope s_line_of) (by decide +kernel))
          (fun _ _ _ _ _ => pg_name (i := 1) sc_line_of.nd rfl (by first | exact Or.inl rfl | exact Or.inr rfl)) (fun _ _ _ _ _ => pts_nil)
          (fun _ _ _ _ _ => (pe_callTy call_strA (by rfl) T.b_str (show bootBuiltins "str" = some (.type "str") by decide +kernel) (pa_cons (pv 1) pa_nil))))) pe_str)), ?_⟩
    refine ⟨⟨_, rfl⟩, _, rfl, p, rfl, ⟨_, hS⟩, fun D nD => ?_⟩
    refine lc_gen (walk_list (xs := ws.map Wd.v)) (Same H) (fun i acc => acc = ((ws.take i).map Wd.s).map tx) (sz (by rw [List.length_map]; omega)) (fun i acc e => by rw [e, List.length_map, List.length_map, List.length_take]; omega) rfl (same_upd nD) (fun _ _ h => same_up h nD) (fun _ h => sq_same hS h) (fun i x H1 H2 acc C N hi rs hD ha y c nn => ?_) (fun H1 ys s1 hD ha => ?_)
    · obtain ⟨rfl, y⟩ := y
      rw [List.getElem?_map] at y
      obtain ⟨a, ha1, rfl⟩ := Option.map_eq_some_iff.mp y
      have hoka := hok a (List.mem_of_getElem? ha1)
      have e : ((ws.take (i + 1)).map Wd.s).map tx = ((ws.take i).map Wd.s).map tx ++ [tx a.s] := by
        rw [List.take_add_one, ha1, List.map_append, List.map_append]
        rfl
      refine ⟨rfl, yes_te ⟨_, rfl, ?_⟩⟩
      cases a with
      | t l => exact .inr ⟨_, rfl, c _ _ rs hD (by rw [ha, e]; rfl)⟩
      | n k =>
        refine .inl ⟨_, rfl, by rw [Int.natAbs_natCast]; exact M90.log_small hoka, c _ _ rs hD ?_⟩
        rw [ha, e, ← M90.dec_str k hoka]
        rfl
    subst ha
    rw [List.length_map, List.take_length] at hD
    have hw : ∀ l ∈ ws.map Wd.s, l.length ≤ 40 := fun l hl => by
      obtain ⟨a, ha, rfl⟩ := List.mem_map.mp hl
      exact Wd.len (hok a ha)
    have h1 := sum_len 40 (ws.map Wd.s) hw
    have h2 := M90.jn_len (ws.map Wd.s) 40 hw
    rw [List.length_map] at h1 h2
    refine ⟨(" " : Str), D, (ws.map Wd.s).map tS, rfl, rfl, .inl (.inl (.inl (by rw [List.map_map]; exact hD))), ?_, ?_⟩
    · rw [List.length_map, List.length_map, show ((" " : Str)).length = 1 from rfl]
      omega
    · rw [join_w]
      refine ⟨M90.jn (ws.map Wd.s), [10], rfl, rfl, ?_, q _ s1⟩
      rw [sizeLine_eq, List.length_singleton]
      omega
theorem ite_wd {b : Bool} {σ : L2.St} {H : Hp} {Q : VK} (h : Q (tx (M90.wd b)) H) : if b = true then tC (V.str "yes") σ H Q else tC (V.str "no") σ H Q := by cases b <;> exact h
theorem wd_n (r : List Nat) : (r.map Wd.n).map Wd.v = nV r := by rw [List.map_map]; rfl
/-- the rows with their ends -/
abbrev mL (sg : List Nat) (R : List (List Nat)) (k : List Bool) : List (List Nat) := (M90.rows sg R k).map M90.endd
theorem Mach.ok90 {C : Addr} {K : PySem.W.Frag} {H : Hp} {a : Addr} {sg : List Nat} {R : List (List Nat)} {k : List Bool} (h : Mach C K H a sg R k) : M90.Ok sg R k := ⟨h.lets.az, h.lets.ne, h.lets.few, h.good.toSht⟩
def spMLines (K : PySem.W.Frag) (C : Addr) : Sp := fun vs H Q _ => ∃ (a : Addr) (sg : List Nat) (R : List (List Nat)) (k : List Bool), vs = [.ref a] ∧ Mach C K H a sg R k ∧ ∀ H' p, Same H H' → H' p = some (.lst ((mL sg R k).map tx)) → Q (.ref p) H'
theorem mL_take (sg : List Nat) (R : List (List Nat)) (k : List Bool) (i : Nat) (h : i < R.length) : (mL sg R k).take (i + 2) = (mL sg R k).take (i + 1) ++ [M90.endd (M90.jn (M90.rowW R k i))] := by
  rw [List.take_add_one]
  congr 1
  unfold mL M90.rows M90.allW
  rw [List.getElem?_map, List.getElem?_map, List.getElem?_cons_succ, List.getElem?_map, List.getElem?_range h]
  rfl
theorem ok_machine_lines (T : All K mg) : FnOk P w K mg base CX0 2 T.f_machine_lines T.d_machine_lines ["machine"] (spMLines K T.C_Machine) := by
  refine T.machine_lines.F.ok sc_machine_lines (fun vs H Q E h => ?_) (fun cdv A outer s H vs Q E hr h => ?_)
  · obtain ⟨a, sg, R, k, rfl, _⟩ := h
    rfl
  · obtain ⟨a, sg, R, k, rfl, hM, q⟩ := h
    obtain ⟨dx, r, qq, hat, hr1, hk1⟩ := hM.at_
    have hO := hM.ok90
    refine ⟨_, pss_cons (ps_set (i := 1) sc_machine_lines.nd rfl (by first | exact Or.inl rfl | exact Or.inr rfl) (pe_lst (pa_cons (pe_call (ok_line_of T) (hr.mono (by decide)) (by rfl) T.line_of.g T.line_of.F.kp T.line_of.b .nil pass0 (pa_cons (pe_lst (pa_cons pe_str (pa_cons (pe_fld (pv 0) rfl) pa_nil))) pa_nil)) pa_nil)))
      (pss_cons (ps_for PassesOwn.never rfl (pi_enumS rfl T.b_enumerate (pa_cons (pe_fld (pv 0) rfl) pa_nil)) (pg_tup rfl (pgs_cons (pg_name (i := 2) sc_machine_lines.nd rfl (by first | exact Or.inl rfl | exact Or.inr rfl)) (pgs_cons (pg_name (i := 3) sc_machine_lines.nd rfl (by first | exact Or.inl rfl | exact Or.inr rfl)) pgs_nil)))
        (pss_one (ps_expr (pe_bm PySem.F.plainAttrs_list PySem.F.slot_list_append PySem.F.type_list_append mt_append (pv 1) (pa_cons (pe_call (ok_line_of T) (hr.mono (by decide)) (by rfl) T.line_of.g T.line_of.F.kp T.line_of.b .nil pass0 (pa_cons (pe_op op_cat (pe_lst (pa_cons (pe_ifExp (pt_val (pe_ix ix_tup (pe_fld (pv 0) rfl) (pv 2) (fun _ _ => rfl))) pe_str pe_str) (pa_cons (pv 2) (pa_cons pe_str pa_nil)))) (pe_callTy call_list_of (by rfl) T.b_list PyProof.Rows.boot_list (pa_cons (pv 3) pa_nil))) pa_nil)) pa_nil)))))
      (pss_one (ps_ret (pv 1)))), ?_⟩
    have hfew := hM.good.few
    refine ⟨_, rfl, a, T.C_Machine, dx, _, _, rfl, hat, T.cl_Machine, T.n_Machine_own_letters, rfl, by show 2 ≤ sizeLine; decide, fun p0 n0 => ?_⟩
    have s0 := same_upd (o := .lst [tx M90.wLet, tx sg]) n0
    refine ⟨p0, [.t M90.wLet, .t sg], rfl, .inl (.inl upd_same), fun a ha => ?_, by show 2 ≤ 50; decide, fun H1 s1 => ?_⟩
    · simp only [List.mem_cons, List.not_mem_nil, or_false] at ha
      rcases ha with rfl | rfl
      · show M90.wLet.length ≤ 40; decide
      · have := hO.few; show sg.length ≤ 40; omega
    refine ⟨by show 1 ≤ sizeLine; decide, fun D nD => ?_⟩
    have s01 := s0.trans s1
    have e0 : [tx (M90.endd (M90.jn ([Wd.t M90.wLet, Wd.t sg].map Wd.s)))] = ((mL sg R k).take 1).map tx := rfl
    rw [e0]
    have sD : Same H (upd H1 D (.lst (((mL sg R k).take 1).map tx))) := same_up s01 (s01.free nD)
    have hDn : H D = none := s01.free nD
    have hlen : (dTR R) = .tuple (R.map fun r => .tuple (dN r)) := rfl
    obtain ⟨rr, xs, e1, hSr, hAr⟩ := dp_tuple hr1
    cases e1
    have hxl := dpAll_len hAr
    rw [List.length_map] at hxl
    refine ⟨_, rfl, a, T.C_Machine, dx, _, _, rfl, sD _ _ hat, T.cl_Machine, T.n_Machine_own_rows, rfl, .T r, xs, rfl, sqT_same hSr sD, ?_⟩
    refine for_it walk_enumS (fun i σ H' => ∃ x y, σ = [some (.ref a), some (.ref D), x, y] ∧ H' D = some (.lst (((mL sg R k).take (i + 1)).map tx)) ∧ Same H H') ⟨none, none, rfl, upd_same, sD⟩ (fun i σ H' _ p => by obtain ⟨_, _, _, _, sm⟩ := p; exact sqT_same hSr sm) (fun i x σ H2 H3 hi p y => ?_) (fun σ H2 p => ?_)
    · obtain ⟨x0, y0, rfl, hD, sm⟩ := p
      obtain ⟨Tp, x1, x2, rfl, nT, rfl, e1, e2⟩ := y
      cases e1
      have hiR : i < R.length := by omega
      obtain ⟨d', h3, h4⟩ := dpAll_back hAr e2
      rw [List.getElem?_map] at h3
      obtain ⟨r', hr', rfl⟩ := Option.map_eq_some_iff.mp h3
      obtain ⟨b, ys, rfl, hS2, hA2⟩ := dp_tuple h4
      rw [dpAll_nats hA2] at hS2
      have er : M90.rowW R k i = M90.words (M14.kAt k i) i r' := by unfold M90.rowW; rw [M14.row_get hr']
      have hr'l : r'.length ≤ 3 := by rw [hO.sht.len r' (List.mem_of_getElem? hr')]; exact hO.few
      have hr'v : ∀ g ∈ r', g < 60 := fun g hg => by
        have := hO.rowlt hiR g (by rw [M14.row_get hr']; exact hg)
        omega
      have sT := same_up (o := .tup [.int (i : Nat), .ref b]) sm (sm.free nT)
      have nDT : D ≠ Tp := fun e => by rw [← e, hD] at nT; cases nT
      have hDT : upd H2 Tp (.tup [.int (i : Nat), .ref b]) D = some (.lst (((mL sg R k).take (i + 1)).map tx)) := by rw [upd_ne nDT]; exact hD
      have hTp := upd_same (H := H2) (a := Tp) (o := .tup [.int (i : Nat), .ref b])
      generalize upd H2 Tp (.tup [.int (i : Nat), .ref b]) = H5 at *
      refine ⟨Tp, _, rfl, .inl (.inl hTp), rfl, _, _, rfl, _, _, rfl, rfl, ?_⟩
      refine ⟨_, rfl, .inl ⟨rfl, _, .inl (.inl hDT)⟩, _, rfl, a, T.C_Machine, dx, _, _, rfl, sT _ _ hat, T.cl_Machine, T.n_Machine_own_kinds, rfl, _, rfl, qq, _, _, _, rfl, rfl, sqT_same hk1 sT, atI_nat (kAt_get (by rw [hM.good.kin]; exact hiR)), _, rfl, ite_wd ?_⟩
      refine ⟨_, rfl, by show 3 ≤ sizeLine; decide, fun p2 n2 => ?_⟩
      have s2 := same_upd (o := .lst [tx (M90.wd (M14.kAt k i)), .int (i : Nat), tx M90.wTo]) n2
      refine ⟨_, rfl, b, _, rfl, .inr (sqT_same hS2 (sT.trans s2)), fun p3 n3 => ?_⟩
      have s3 := same_upd (o := .lst (nV r')) n3
      refine ⟨p2, p3, _, _, rfl, rfl, s3 _ _ upd_same, upd_same, by rw [nV_len]; show 3 + _ ≤ _; rw [sizeLine_eq]; omega, fun p4 n4 => ?_⟩
      have s4 := same_upd (o := .lst ([tx (M90.wd (M14.kAt k i)), .int (i : Nat), tx M90.wTo] ++ nV r')) n4
      refine ⟨p4, .t (M90.wd (M14.kAt k i)) :: .n i :: .t M90.wTo :: r'.map .n, rfl, .inl (.inl ?_), fun a ha => ?_, ?_, fun H6 s6 => ?_⟩
      · rw [List.map_cons, List.map_cons, List.map_cons, wd_n]
        exact upd_same
      · simp only [List.mem_cons, List.mem_map] at ha
        rcases ha with rfl | rfl | rfl | ⟨g, hg, rfl⟩
        · show (M90.wd _).length ≤ 40
          unfold M90.wd; split <;> decide
        · show i < 60
          omega
        · show M90.wTo.length ≤ 40
          decide
        · exact hr'v g hg
      · simp only [List.length_cons, List.length_map]
        omega
      have s56 := s2.trans (s3.trans (s4.trans s6))
      have hl3 : ((mL sg R k).take (i + 1)).length ≤ i + 1 := by rw [List.length_take]; omega
      refine ⟨D, _, _, rfl, rfl, s56 _ _ hDT, by rw [List.length_map, sizeLine_eq]; omega, _, _, rfl, ?_, same_up (sT.trans s56) hDn⟩
      rw [upd_same, mL_take sg R k i hiR, List.map_append, er]
      unfold M90.words
      rw [List.map_cons, List.map_cons, List.map_cons, List.map_map]
      rfl
    · obtain ⟨x0, y0, rfl, hD, sm⟩ := p
      refine ⟨_, rfl, q _ D sm ?_⟩
      rw [hD, List.take_of_length_le]
      rw [List.length_map, M90.rows_len, hxl]
      exact Nat.le_refl _
end
end Lw
namespace Lw
open PySem PySem.Spec PyProof.Rows L3
open L2 hiding del del_same del_ne
theorem join_0 : ∀ ls : List (List Nat), TL.joinL [] ls = ls.flatten
  | [] => rfl
  | [l] => (List.append_nil l).symm
  | l :: m :: r => by
    show l ++ ([] ++ TL.joinL [] (m :: r)) = _
    rw [join_0 (m :: r)]
    rfl
theorem join_e (ls : List (List Nat)) : Txt.join ("" : Str) (ls.map tS) = tS ls.flatten := (SX.join_S [] ls).trans (congrArg tS (join_0 ls))
section
variable {P : Program} {w : World} {K : PySem.W.Frag} {mg : Str → Option Value} {base : Heap}
def spTextOf (K : PySem.W.Frag) (C : Addr) : Sp := fun vs H Q _ => ∃ (a : Addr) (sg : List Nat) (R : List (List Nat)) (k : List Bool), vs = [.ref a] ∧ Mach C K H a sg R k ∧ ∀ H', Same H H' → Q (tx (M90.text sg R k)) H'
theorem ok_text_of (T : All K mg) (F : XF w T) : FnOk P w K mg base CX0 3 T.f_text_of T.d_text_of ["entry"] (spTextOf K T.C_Machine) := by
  refine T.text_of.F.ok sc_text_of (fun vs H Q E h => ?_) (fun cdv A outer s H vs Q E hr h => ?_)
  · obtain ⟨a, sg, R, k, rfl, _⟩ := h
    rfl
  · obtain ⟨a, sg, R, k, rfl, hM, q⟩ := h
    refine ⟨_, pss_one (ps_ret (pe_join pe_str (pe_ifExp (pt_val (pe_callB call_isi (by rfl) T.b_isinstance boot_isinstance (pa_cons (pv 0) (pa_cons (pe_glob (v := .ref T.C_Sum) rfl T.g_Sum rfl) pa_nil)))) pe_never (pe_call (ok_machine_lines T) (hr.mono (by decide)) (by rfl) T.machine_lines.g T.machine_lines.F.kp T.machine_lines.b .nil pass0 (pa_cons (pv 0) pa_nil))))), ?_⟩
    refine ⟨⟨_, rfl⟩, _, rfl, _, .ref T.C_Sum, .ref T.C_Machine, .ref T.C_Sum, false, rfl, .own _, ty_mach T hM, F.ns, false, rfl, iteF ?_⟩
    refine ⟨_, rfl, a, sg, R, k, rfl, hM, fun H1 p s1 hp => ?_⟩
    have h1 := M90.row_few hM.ok90
    have h2 : ∀ l ∈ mL sg R k, l.length ≤ 49 := fun l hl => by
      obtain ⟨m, hm, rfl⟩ := List.mem_map.mp hl
      have := h1 m hm
      unfold M90.endd
      simp
      omega
    have h3 := sum_len 49 (mL sg R k) h2
    have h4 : (mL sg R k).length ≤ 41 := by
      rw [List.length_map, M90.rows_len]
      have := hM.good.few
      omega
    refine ⟨("" : Str), p, (mL sg R k).map tS, rfl, rfl, .inl (.inl (.inl (by rw [List.map_map]; exact hp))), ?_, ?_⟩
    · rw [List.length_map, show (("" : Str)).length = 0 from rfl]
      omega
    · rw [join_e]
      exact q _ s1
def spBytesOf (K : PySem.W.Frag) (C : Addr) : Sp := fun vs H Q _ => ∃ (a : Addr) (sg : List Nat) (R : List (List Nat)) (k : List Bool), vs = [.ref a] ∧ Mach C K H a sg R k ∧ ∀ H' b, Same H H' → BytL b (M90.text sg R k) → b.size ≤ 2009 → b.contains 39 = false → Q (.byt b) H'
theorem ok_bytes_of (T : All K mg) (F : XF w T) : FnOk P w K mg base CX0 4 T.f_bytes_of T.d_bytes_of ["entry"] (spBytesOf K T.C_Machine) := by
  refine T.bytes_of.F.ok sc_bytes_of (fun vs H Q E h => ?_) (fun cdv A outer s H vs Q E hr h => ?_)
  · obtain ⟨a, sg, R, k, rfl, _⟩ := h
    rfl
  · obtain ⟨a, sg, R, k, rfl, hM, q⟩ := h
    refine ⟨_, pss_one (ps_ret (pe_bm0 PySem.F.plainAttrs_str PySem.F.slot_str_encode PySem.F.type_str_encode mt_encode (pe_call (ok_text_of T F) (hr.mono (by decide)) (by rfl) T.text_of.g T.text_of.F.kp T.text_of.b .nil pass0 (pa_cons (pv 0) pa_nil)))), ?_⟩
    refine ⟨_, rfl, a, sg, R, k, rfl, hM, fun H1 s1 => ⟨rfl, ?_⟩⟩
    have h1 := M90.text_asc hM.ok90
    have h2 := M90.text_few hM.ok90
    refine ⟨_, rfl, rfl, fun c hc => ?_, by omega, fun b hb hz => q _ b s1 hb (by omega) ?_⟩
    · have := h1 c hc
      unfold M90.Sgn at this
      omega
    · rw [← Bool.not_eq_true, Array.contains_iff_mem]
      intro hm
      have h3 : ((39 : Nat) : Int) ∈ bi b := by
        exact List.mem_map.mpr ⟨39, Array.mem_toList_iff.mpr hm, rfl⟩
      rw [hb] at h3
      obtain ⟨c, hc, e⟩ := List.mem_map.mp h3
      have := h1 c hc
      unfold M90.Sgn at this
      omega
def spGoalOf : Sp := fun vs H Q _ => ∃ n, vs = [tx (M90.dec n)] ∧ n < 40 ∧ ∀ H', Same H H' → Q (.int (n : Int)) H'
theorem ok_goal_of (T : All K mg) : FnOk P w K mg base CX0 1 T.f_goal_of T.d_goal_of ["word"] spGoalOf := by
  refine T.goal_of.F.ok sc_goal_of (fun vs H Q E h => ?_) (fun cdv A outer s H vs Q E hr h => ?_)
  · obtain ⟨n, rfl, _⟩ := h
    rfl
  · obtain ⟨n, rfl, hn, q⟩ := h
    obtain ⟨ts, hDIGITS⟩ := T.c_DIGITS
    obtain ⟨tk, hcv⟩ := T.cv_Machine_MOST_PLACES
    refine ⟨_, pss_cons (ps_if (PW.pt (pw_or (pt_not (pt_chain op_le op_le pe_int (pe_callB call_lenT (by rfl) T.b_len PySem.boot_len (pa_cons (pv 0) pa_nil)) pe_int)) (pw_or1 (pt_not (pt_val (pe_callB (cr_all rfl) (by rfl) T.b_all PyProof.Rows.boot_all (pa_cons (pe_lc (own := [("sign", 1)]) (g := gName 1) (tt := tYes) rfl sc_goal_of.nd (pi_str (pv 0))
          (blkOk_by (own := [("sign", 1)]) (N := ["word", "sign"]) (sc := defScope s_goal_of) (by decide +kernel))
          (fun _ _ _ _ _ => pg_name (i := 1) sc_goal_of.nd rfl (by first | exact Or.inl rfl | exact Or.inr rfl)) (fun _ _ _ _ _ => pts_nil)
          (fun _ _ _ _ _ => (pe_cmpR op_in_sign (pv 1) (pe_glob (v := .str "0123456789") rfl hDIGITS ⟨_, rfl⟩) (by rfl)))) pa_nil))))))) (pss_one (ps_ret pe_non)) pss_nil)
      (pss_cons (ps_if (PW.pt (pw_or (pt_cmpR op_ne (pe_callTy call_str_int (by rfl) T.b_str (show bootBuiltins "str" = some (.type "str") by decide +kernel) (pa_cons (pe_callTy call_int_str (by rfl) T.b_int PyProof.Rows.boot_int (pa_cons (pv 0) pa_nil)) pa_nil)) (pv 0) (nomark _)) (pw_or1 (pt_cmpR op_ge (pe_callTy call_int_str (by rfl) T.b_int PyProof.Rows.boot_int (pa_cons (pv 0) pa_nil)) (ClX.pe_cval (pe_glob (v := .ref T.C_Machine) rfl T.g_Machine rfl)) (nomark _))))) (pss_one (ps_ret pe_non)) pss_nil)
      (pss_one (ps_ret (pe_callTy call_int_str (by rfl) T.b_int PyProof.Rows.boot_int (pa_cons (pv 0) pa_nil))))), ?_⟩
    have hl := M90.dec_len n
    have e1 : decide ((1 : Int) ≤ ((M90.dec n).length : Int)) = true := decide_eq_true (by omega)
    have e2 : decide (((M90.dec n).length : Int) ≤ 2) = true := decide_eq_true (by omega)
    have hint : ∀ {Q : Int → Prop}, Q (n : Int) → ∃ m, PySem.intText? (tS (M90.dec n)) = some m ∧ (tS (M90.dec n)).length ≤ 640 ∧ Q m := fun {Q} h => ⟨_, M90.dec_int n (by omega), by rw [show (tS (M90.dec n)).length = _ from SX.S_len _]; omega, h⟩
    refine ⟨_, rfl, M90.dec n, rfl, sz (by omega), _, _, rfl, rfl, _, rfl, ?_⟩
    rw [e1]
    refine iteT ⟨_, _, rfl, rfl, true, congrArg V.bl e2, iteF ?_⟩
    refine ⟨tx (M90.dec n), rfl, tS (M90.dec n), rfl, fun D nD => ?_⟩
    refine lc_gen walk_tx (Same H) (fun i acc => acc = List.replicate i (.bl true)) (sz (by omega)) (fun i acc e => by rw [e]; simp) rfl (same_upd nD) (fun _ _ h => same_up h nD) (fun _ _ => trivial) (fun i x H2 H3 acc C N hi r hD ha y c n => ?_) (fun H2 xs r hD ha => ?_)
    · obtain ⟨rfl, ch, hc, rfl⟩ := y
      refine ⟨rfl, yes_te ?_⟩
      refine ⟨_, rfl, ch, _, rfl, rfl, ?_⟩
      rw [decide_eq_true (M90.digit_in (M90.dec_fig (by omega) ch (List.mem_of_getElem? hc)))]
      exact c _ _ r hD (by rw [ha, List.replicate_succ'])
    refine ⟨D, List.replicate (M90.dec n).length true, rfl, .inl (.inl ?_), true, ?_, iteF ?_⟩
    · rw [hD, ha]
      simp
    · have e : (List.replicate (M90.dec n).length true).all id = true := by simp
      rw [e]
    obtain ⟨m, hm1, hm2, e⟩ := hint (Q := fun m => m = (n : Int)) rfl
    subst e
    refine ⟨_, rfl, _, _, rfl, hm1, hm2, _, rfl, by rw [Int.natAbs_natCast]; exact M90.log_small (by omega), _, rfl, ?_⟩
    refine ⟨rfl, _, rfl, ite_f ?_ ?_⟩
    · rw [← M90.dec_str n (by omega)]
      simp
    refine ⟨_, rfl, _, _, rfl, hm1, hm2, T.C_Machine, .type "type", _, _, rfl, T.cr_Machine, hcv, _, _, rfl, rfl, _, rfl, ite_f (decide_eq_false (by omega)) ?_⟩
    exact ⟨_, rfl, _, _, rfl, hm1, hm2, q _ r⟩
end
end Lw
namespace Lw
open PySem PySem.Spec PyProof.Rows L3
open L2 hiding del del_same del_ne
def hide (l : List Addr) (H : Hp) : Hp := fun b => if b ∈ l then none else H b
theorem hide_out {l : List Addr} {H : Hp} {b : Addr} (h : b ∉ l) : hide l H b = H b := if_neg h
theorem hide_some {l : List Addr} {H : Hp} {b : Addr} {o : HO} (h : hide l H b = some o) : b ∉ l ∧ H b = some o := by
  unfold hide at h
  by_cases m : b ∈ l
  · rw [if_pos m] at h; cases h
  · rw [if_neg m] at h; exact ⟨m, h⟩
theorem hide_le {l : List Addr} {H : Hp} : Same (hide l H) H := fun b o e => (hide_some e).2
theorem hide_mono {l : List Addr} {H H' : Hp} (s : Same H H') : Same (hide l H) (hide l H') := fun b o e => by
  obtain ⟨m, e⟩ := hide_some e
  rw [hide_out m]
  exact s _ _ e
theorem hide_upd {l : List Addr} {H : Hp} {a : Addr} {o : HO} (h : a ∈ l) : hide l (upd H a o) = hide l H := by
  funext b
  unfold hide
  by_cases m : b ∈ l
  · rw [if_pos m, if_pos m]
  · rw [if_neg m, if_neg m, upd_ne (fun e => m (by rw [e]; exact h))]
/-- what is there and hidden from nobody stays where all but l stays -/
theorem hide_keep {l : List Addr} {H H' : Hp} (s : Same (hide l H) (hide l H')) {b : Addr} {o : HO} (h : H b = some o) (m : b ∉ l) : H' b = some o := by
  have := s b o (by rw [hide_out m]; exact h)
  exact (hide_some this).2
/-- the reader of a machine, behind n rows -/
structure RdS (C : Addr) (H : Hp) (x dx r q : Addr) (sg : List Nat) (R : List (List Nat)) (k : List Bool) (n : Nat) : Prop where
  ob : H x = some (.ins C dx [("own_letters", if n = 0 then .non else tx sg), ("own_rows", .ref r), ("own_kinds", .ref q)])
  xr : x ≠ r
  xq : x ≠ q
  rq : r ≠ q
  ro : ∃ xs, H r = some (.lst xs) ∧ xs.length = n - 1 ∧ ∀ i y, xs[i]? = some y → ∃ b, y = .ref b ∧ hide [x, r, q] H b = some (.lst (nV (M14.row R i)))
  ki : H q = some (.lst ((k.take (n - 1)).map V.bl))
theorem RdS.same {C : Addr} {H H' : Hp} {x dx r q : Addr} {sg : List Nat} {R : List (List Nat)} {k : List Bool} {n : Nat} (h : RdS C H x dx r q sg R k n) (s : Same H H') : RdS C H' x dx r q sg R k n := by
  obtain ⟨a, b, c, d, ⟨xs, e1, e2, e3⟩, f⟩ := h
  refine ⟨s _ _ a, b, c, d, ⟨xs, s _ _ e1, e2, fun i y hy => ?_⟩, s _ _ f⟩
  obtain ⟨b, h1, h2⟩ := e3 i y hy
  exact ⟨b, h1, hide_mono s _ _ h2⟩
theorem cut13 (a b c : V) (r : List V) : cutV (a :: b :: c :: r) (some 1) (some 3) = [b, c] := by
  unfold cutV
  rw [show (some 1 : Option Int) = some ((1 : Nat) : Int) from rfl, show (some 3 : Option Int) = some ((3 : Nat) : Int) from rfl, HT.sIx_nat, HT.sIx_nat]
  simp only [List.length_cons]
  rw [show min 1 (r.length + 1 + 1 + 1) = 1 by omega, show min 3 (r.length + 1 + 1 + 1) = 3 by omega]
  rfl
theorem cut3 (a b c : V) (r : List V) : cutV (a :: b :: c :: r) (some 3) none = r := by
  unfold cutV
  rw [show (some 3 : Option Int) = some ((3 : Nat) : Int) from rfl, HT.sIx_nat, HT.sIx_none]
  simp only [List.length_cons]
  rw [show min 3 (r.length + 1 + 1 + 1) = 3 by omega, show r.length + 1 + 1 + 1 - 3 = r.length by omega]
  exact List.take_length
theorem eqv_txs : ∀ ls : List (List Nat), PyData.eqv (.list (dTx ls)) (.list (dTx ls)) = true := by
  intro ls
  show PyData.eqvAll _ _ = true
  unfold dTx
  rw [eqv_map (α := List Nat) _ (fun a b => ?_) _ _]
  · exact decide_eq_true rfl
  · show (tS a == tS b) = _
    by_cases h : a = b
    · subst h; simp
    · rw [decide_eq_false h]; exact beq_eq_false_iff_ne.mpr fun z => h (tS_inj z)
theorem wt_txs {ls : List (List Nat)} {m n : Nat} (h : ∀ l ∈ ls, (∀ c ∈ l, c < 1114112) ∧ l.length ≤ m) (hn : ls.length ≤ n) : Wt (.list (dTx ls)) ((m + 1) * n) 1 := by
  refine Wt.list (fun d hd => ?_) (by unfold dTx; rw [List.length_map]; exact hn)
  unfold dTx at hd
  obtain ⟨l, hl, rfl⟩ := List.mem_map.mp hd
  exact Wt.text (h l hl).1 (h l hl).2
theorem atI_0 {v : V} {r : List V} : atI (v :: r) 0 = some v := atI_nat (j := 0) rfl
section
variable {P : Program} {w : World} {K : PySem.W.Frag} {mg : Str → Option Value} {base : Heap}
def spRInit (C : Addr) : Sp := fun vs H Q _ => ∃ (x dx : Addr), vs = [.ref x] ∧ H x = some (.ins C dx []) ∧ ∀ H' r q, (∀ b o, H b = some o → b ≠ x → H' b = some o) → (∀ sg R k, RdS C H' x dx r q sg R k 0) → H r = none → H q = none → Q .non H'
theorem ok_MachineReader_init (T : All K mg) : FnOk P w K mg base CX0 1 T.f_MachineReader_init T.d_MachineReader_init ["self"] (spRInit T.C_MachineReader) := by
  refine T.MachineReader_init.F.ok sc_MachineReader_init (fun vs H Q E h => ?_) (fun cdv A outer s H vs Q E hr h => ?_)
  · obtain ⟨x, dx, rfl, _⟩ := h
    rfl
  · obtain ⟨x, dx, rfl, hx, q⟩ := h
    refine ⟨_, pss_cons (ps_fld (pv 0) pe_non rfl)
      (pss_cons (ps_fld (pv 0) (pe_lst pa_nil) rfl)
      (pss_one (ps_fld (pv 0) (pe_lst pa_nil) rfl))), ?_⟩
    refine ⟨_, rfl, x, T.C_MachineReader, dx, [], rfl, hx, T.cl_MachineReader, T.n_MachineReader_own_letters, by decide, ?_⟩
    have e1 : upd H x (.ins T.C_MachineReader dx (putF "own_letters" .non [])) = upd H x (.ins T.C_MachineReader dx [("own_letters", .non)]) := rfl
    refine ⟨by show 0 ≤ sizeLine; decide, fun r n1 => ?_⟩
    have hxr : x ≠ r := fun e => by rw [← e, upd_same] at n1; cases n1
    have hrn : H r = none := by rw [upd_ne hxr.symm] at n1; exact n1
    refine ⟨_, rfl, x, T.C_MachineReader, dx, _, rfl, by rw [upd_ne hxr, upd_same], T.cl_MachineReader, T.n_MachineReader_own_rows, by show (1 : Nat) < 1000; decide, by show 0 ≤ sizeLine; decide, fun q' n2 => ?_⟩
    have hxq : x ≠ q' := fun e => by rw [← e, upd_same] at n2; cases n2
    have hrq : r ≠ q' := fun e => by rw [← e, upd_ne hxr.symm, upd_same] at n2; cases n2
    have hqn : H q' = none := by rw [upd_ne hxq.symm, upd_ne hrq.symm, upd_ne hxq.symm] at n2; exact n2
    refine ⟨_, rfl, x, T.C_MachineReader, dx, _, rfl, by rw [upd_ne hxq, upd_same], T.cl_MachineReader, T.n_MachineReader_own_kinds, by show (2 : Nat) < 1000; decide, ?_⟩
    refine q _ r q' (fun b o e nb => ?_) (fun sg R k => ⟨upd_same, hxr, hxq, hrq, ⟨[], ?_, rfl, fun i y h => by cases h⟩, ?_⟩) hrn hqn
    · rw [upd_ne nb, upd_ne (ne_of_none e hqn), upd_ne nb, upd_ne (ne_of_none e hrn), upd_ne nb]
      exact e
    · rw [upd_ne hxr.symm, upd_ne hrq, upd_ne hxr.symm, upd_same]
    · rw [upd_ne hxq.symm, upd_same]
      rfl
def spTakeP (K : PySem.W.Frag) (C : Addr) : Sp := fun vs H Q _ => ∃ (x dx r q p : Addr) (sg : List Nat) (R : List (List Nat)) (k : List Bool) (n : Nat), vs = [.ref x, .ref p] ∧ RdS C H x dx r q sg R k (n + 1) ∧ M90.Ok sg R k ∧ n < R.length ∧ SqL K (hide [x, r, q] H) p ((M90.rowW R k n).map tx) ∧
  ∀ H', RdS C H' x dx r q sg R k (n + 2) → Same (hide [x, r, q] H) (hide [x, r, q] H') → Q (.bl true) H'
theorem ok_MachineReader_take_place (T : All K mg) (F : XF w T) : FnOk P w K mg base CX0 2 T.f_MachineReader_take_place T.d_MachineReader_take_place ["self", "words"] (spTakeP K T.C_MachineReader) := by
  refine T.MachineReader_take_place.F.ok sc_MachineReader_take_place (fun vs H Q E h => ?_) (fun cdv A outer s H vs Q E hr h => ?_)
  · obtain ⟨x, dx, r, q, p, sg, R, k, n, rfl, _⟩ := h
    rfl
  · obtain ⟨x, dx, r, q, p, sg, R, k, n, rfl, hR, hO, hn, hS, qq⟩ := h
    have hob : H x = some (.ins T.C_MachineReader dx [("own_letters", tx sg), ("own_rows", .ref r), ("own_kinds", .ref q)]) := by
      have := hR.ob
      rwa [if_neg (by omega)] at this
    obtain ⟨xs, hrr, hxl, hxs⟩ := hR.ro
    have hxl : xs.length = n := hxl
    have hki : H q = some (.lst ((k.take n).map V.bl)) := hR.ki
    have hkd : ∀ b, PySem.W.nsIn K T.A_KINDS (tS (M90.wd b)) = some (some (.bool b)) := fun b => by
      cases b
      · exact F.n
      · exact F.y
    have hsh := hO.sht
    have hfew := hsh.few
    have hsg := hO.few
    have hrl := hsh.len _ (M14.row_mem hn)
    have hrv := hO.rowlt hn
    have eW : (M90.rowW R k n).map tx = tx (M90.wd (M14.kAt k n)) :: tx (M90.dec n) :: tx M90.wTo :: ((M14.row R n).map M90.dec).map tx := rfl
    rw [eW] at hS
    have hS1 := sq_same hS (hide_le (l := [x, r, q]) (H := H))
    have hn60 : n < 60 := by omega
    refine ⟨_, pss_cons (ps_set (i := 2) sc_MachineReader_take_place.nd rfl (by first | exact Or.inl rfl | exact Or.inr rfl) (pe_callB call_len_seq (by rfl) T.b_len PySem.boot_len (pa_cons (pe_fld (pv 0) rfl) pa_nil)))
      (pss_cons (ps_if (PW.pt (pw_or (pt_cmpR op_ne (pe_callB call_len_seq (by rfl) T.b_len PySem.boot_len (pa_cons (pv 1) pa_nil)) (pe_op op_add pe_int (pe_callB call_lenT (by rfl) T.b_len PySem.boot_len (pa_cons (pe_fld (pv 0) rfl) pa_nil))) (nomark _)) (pw_or (pt_cmpR (op_notInKdK (K := K) (w := w) rfl rfl) (pe_ix ix_list (pv 1) pe_int (fun _ _ => rfl)) (pe_glob (v := .ref T.A_KINDS) rfl T.g_KINDS rfl) (by rfl)) (pw_or1 (pt_cmpR (op_neD (u64 hr)) (pe_slice sl_list (pv 1) (po_some pe_int) (po_some pe_int)) (pe_lst (pa_cons (pe_callTy call_str_int (by rfl) T.b_str (show bootBuiltins "str" = some (.type "str") by decide +kernel) (pa_cons (pv 2) pa_nil)) (pa_cons pe_str pa_nil))) (nomark _)))))) (pss_one (ps_ret pe_bl)) pss_nil)
      (pss_cons (ps_setLc (i := 3) (own := [("word", 4)]) (g := gName 4) (tt := tYes) (by rfl) sc_MachineReader_take_place.nd rfl rfl (sw_true rfl rfl rfl (by decide +kernel)) (pi_list (pe_slice sl_list (pv 1) (po_some pe_int) po_none))
          (blkOk_by (own := [("word", 4)]) (N := ["self", "words", "many", "goals", "word"]) (sc := defScope s_MachineReader_take_place) (by decide +kernel))
          (fun _ _ _ _ _ => pg_name (i := 4) sc_MachineReader_take_place.nd rfl (by first | exact Or.inl rfl | exact Or.inr rfl)) (fun _ _ _ _ _ => pts_nil)
          (fun _ _ _ _ _ => (pe_call (ok_goal_of T) (hr.mono (by decide)) (by rfl) T.goal_of.g T.goal_of.F.kp T.goal_of.b .nil pass0 (pa_cons (pv 4) pa_nil))))
      (pss_cons (ps_if (PW.pt (pw_or (pt_cmpR (op_inAnyK (K := K) rfl (u64 hr)) pe_non (pv 3) (by rfl)) (pw_or1 (pt_cmpR op_eq (pv 2) (ClX.pe_cval (pe_glob (v := .ref T.C_Machine) rfl T.g_Machine rfl)) (nomark _))))) (pss_one (ps_ret pe_bl)) pss_nil)
      (pss_cons (ps_expr (pe_bm PySem.F.plainAttrs_list PySem.F.slot_list_append PySem.F.type_list_append mt_append (pe_fld (pv 0) rfl) (pa_cons (pv 3) pa_nil)))
      (pss_cons (ps_expr (pe_bm PySem.F.plainAttrs_list PySem.F.slot_list_append PySem.F.type_list_append mt_append (pe_fld (pv 0) rfl) (pa_cons (pe_ix ix_kdict (pe_glob (v := .ref T.A_KINDS) rfl T.g_KINDS rfl) (pe_ix ix_list (pv 1) pe_int (fun _ _ => rfl)) (fun _ _ => rfl)) pa_nil)))
      (pss_one (ps_ret pe_bl))))))), ?_⟩
    refine ⟨_, rfl, x, T.C_MachineReader, dx, _, _, rfl, hob, T.cl_MachineReader, T.n_MachineReader_own_rows, rfl, r, xs, rfl, .inl (.inl (.inl hrr)), ?_⟩
    rw [hxl]
    refine ⟨_, rfl, p, _, rfl, .inl hS1, _, rfl, x, T.C_MachineReader, dx, _, _, rfl, hob, T.cl_MachineReader, T.n_MachineReader_own_letters, rfl, sg, rfl, sz (by omega), _, _, rfl, rfl, rfl, _, rfl, ite_f ?_ ?_⟩
    · simp [hrl]
      omega
    refine ⟨_, rfl, p, _, _, _, rfl, rfl, hS1, atI_0, tS (M90.wd (M14.kAt k n)), T.A_KINDS, _, rfl, rfl, F.D, hkd _, _, rfl, ite_f rfl ?_⟩
    refine ⟨_, rfl, _, rfl, _, rfl, p, _, rfl, hS1, fun p1 n1 => ?_⟩
    rw [cut13]
    have s1 := same_upd (o := .lst [tx (M90.dec n), tx M90.wTo]) n1
    have h1 := upd_same (H := H) (a := p1) (o := .lst [tx (M90.dec n), tx M90.wTo])
    generalize upd H p1 (.lst [tx (M90.dec n), tx M90.wTo]) = H1 at *
    refine ⟨_, rfl, _, rfl, by rw [Int.natAbs_natCast]; exact M90.log_small hn60, by show 2 ≤ sizeLine; decide, fun p2 n2 => ?_⟩
    rw [← M90.dec_str n hn60]
    have s2 := same_upd (o := .lst [tx (M90.dec n), .str "to"]) n2
    have h2 := upd_same (H := H1) (a := p2) (o := .lst [tx (M90.dec n), .str "to"])
    have wW : SeqAt.shaped (.list (dTx [M90.dec n, M90.wTo])) = true := (wt_txs (m := 7) (n := 2) (fun l hl => by
      simp only [List.mem_cons, List.not_mem_nil, or_false] at hl
      rcases hl with rfl | rfl
      · exact ⟨fun c hc => by have := (M90.dec_fig hn60 c hc).2; omega, by have := (M90.dec_len n).2; omega⟩
      · exact ⟨by decide, by decide⟩) (by simp)).shaped (by decide)
    refine ⟨.list (dTx [M90.dec n, M90.wTo]), .list (dTx [M90.dec n, M90.wTo]), .lst (.inl (.inl (s2 _ _ h1))) (dp_txs [M90.dec n, M90.wTo]), .lst (.inl (.inl h2)) (dp_txs [M90.dec n, M90.wTo]), wW, wW, _, rfl, ite_f (by rw [eqv_txs]; rfl) ?_⟩
    have s12 := s1.trans s2
    generalize upd H1 p2 (.lst [tx (M90.dec n), .str "to"]) = H2 at *
    refine ⟨_, rfl, _, rfl, p, _, rfl, sq_same hS1 s12, fun p3 n3 => ?_⟩
    rw [cut3]
    have s3 := same_upd (o := .lst (((M14.row R n).map M90.dec).map tx)) n3
    have h3 := upd_same (H := H2) (a := p3) (o := .lst (((M14.row R n).map M90.dec).map tx))
    generalize upd H2 p3 (.lst (((M14.row R n).map M90.dec).map tx)) = H3 at *
    refine ⟨p3, rfl, ⟨_, .inl (.inl h3)⟩, fun D nD => ?_⟩
    have s13 := s12.trans s3
    refine lc_gen (walk_list (xs := ((M14.row R n).map M90.dec).map tx)) (Same H3) (fun i acc => acc = nV ((M14.row R n).take i)) (sz (by rw [List.length_map, List.length_map]; omega)) (fun i acc e => by rw [e, nV_len, List.length_take]; omega) rfl (same_upd nD) (fun _ _ h => same_up h nD) (fun _ h => .inl (.inl (h _ _ h3))) (fun i v H4 H5 acc C N hi rs hD ha y c nn => ?_) (fun H4 ys s4 hD ha => ?_)
    · obtain ⟨rfl, y⟩ := y
      rw [List.getElem?_map, List.getElem?_map] at y
      obtain ⟨a1, ha1, rfl⟩ := Option.map_eq_some_iff.mp y
      obtain ⟨g, hg, rfl⟩ := Option.map_eq_some_iff.mp ha1
      refine ⟨rfl, yes_te ⟨_, rfl, g, rfl, hrv g (List.mem_of_getElem? hg), fun H6 s6 => c _ _ (rs.trans s6) (s6 _ _ hD) ?_⟩⟩
      rw [ha, List.take_add_one, hg]
      unfold nV
      rw [List.map_append]
      rfl
    rw [List.length_map, List.length_map, List.take_length] at ha
    subst ha
    have s14 := s13.trans s4
    have nDx : D ≠ x := fun e => by rw [e] at nD; rw [s13 _ _ hob] at nD; cases nD
    have nDr : D ≠ r := fun e => by rw [e] at nD; rw [s13 _ _ hrr] at nD; cases nD
    have nDq : D ≠ q := fun e => by rw [e] at nD; rw [s13 _ _ hki] at nD; cases nD
    have nDl : D ∉ [x, r, q] := by simp [nDx, nDr, nDq]
    have hni : inInts .none ((M14.row R n).map fun g => ((g : Nat) : Int)) = false := by
      unfold inInts
      rw [← Bool.not_eq_true, List.any_eq_true]
      rintro ⟨a, _, h⟩
      cases h
    have eN : nV (M14.row R n) = ((M14.row R n).map fun g => ((g : Nat) : Int)).map V.int := by unfold nV; rw [List.map_map]; rfl
    obtain ⟨tk, hcv⟩ := T.cv_Machine_MOST_PLACES
    refine ⟨_, rfl, D, .none, _, rfl, .data .non, .inl (.inl (.inl (by rw [← eN]; exact hD))), _, rfl, ite_f hni ?_⟩
    refine ⟨_, rfl, T.C_Machine, .type "type", _, _, rfl, T.cr_Machine, hcv, rfl, _, rfl, ite_f (by simp; omega) ?_⟩
    have hr4 := s14 _ _ hrr
    have hq4 := s14 _ _ hki
    have hx4 := s14 _ _ hob
    have xr := hR.xr
    have xq := hR.xq
    have rq := hR.rq
    refine ⟨_, rfl, x, T.C_MachineReader, dx, _, _, rfl, hx4, T.cl_MachineReader, T.n_MachineReader_own_rows, rfl, .inl ⟨rfl, _, .inl (.inl hr4)⟩, _, rfl, r, _, _, rfl, rfl, hr4, by rw [sizeLine_eq]; omega, ?_⟩
    have hx5 : upd H4 r (.lst (xs ++ [.ref D])) x = some (.ins T.C_MachineReader dx [("own_letters", tx sg), ("own_rows", .ref r), ("own_kinds", .ref q)]) := by rw [upd_ne xr]; exact hx4
    have hq5 : upd H4 r (.lst (xs ++ [.ref D])) q = some (.lst ((k.take n).map V.bl)) := by rw [upd_ne rq.symm]; exact hq4
    have e5 : hide [x, r, q] (upd H4 r (.lst (xs ++ [.ref D]))) = hide [x, r, q] H4 := hide_upd (by simp)
    have hS5 : SqL K (upd H4 r (.lst (xs ++ [.ref D]))) p _ := sq_same hS ((hide_mono s14).trans (by rw [← e5]; exact hide_le))
    have hD5 : upd H4 r (.lst (xs ++ [.ref D])) D = some (.lst (nV (M14.row R n))) := by rw [upd_ne nDr]; exact hD
    have hr5 := upd_same (H := H4) (a := r) (o := .lst (xs ++ [.ref D]))
    generalize upd H4 r (.lst (xs ++ [.ref D])) = H5 at *
    obtain ⟨es, nn, hkD⟩ := F.D
    have hkt : ((k.take n).map V.bl).length = n := by
      rw [List.length_map, List.length_take]
      have := hsh.kin
      omega
    refine ⟨_, rfl, x, T.C_MachineReader, dx, _, _, rfl, hx5, T.cl_MachineReader, T.n_MachineReader_own_kinds, rfl, .inl ⟨rfl, _, .inl (.inl hq5)⟩, _, rfl, p, _, _, _, rfl, rfl, hS5, atI_0, T.A_KINDS, _, .bl (M14.kAt k n), rfl, rfl, ⟨es, nn, _, hkD.at_, hkD.lit, hkd _, rfl⟩, q, _, _, rfl, rfl, hq5, by rw [hkt, sizeLine_eq]; omega, ?_⟩
    have e6 : hide [x, r, q] (upd H5 q (.lst ((k.take n).map V.bl ++ [.bl (M14.kAt k n)]))) = hide [x, r, q] H4 := (hide_upd (by simp)).trans e5
    refine qq _ ⟨?_, xr, xq, rq, ⟨xs ++ [.ref D], ?_, ?_, fun i y hy => ?_⟩, ?_⟩ ?_
    · rw [if_neg (by omega), upd_ne xq]
      exact hx5
    · rw [upd_ne rq]
      exact hr5
    · rw [List.length_append, List.length_singleton]
      omega
    · rw [e6]
      by_cases hi : i < n
      · rw [List.getElem?_append_left (by omega)] at hy
        obtain ⟨b, h1, h2⟩ := hxs i y hy
        exact ⟨b, h1, hide_mono s14 _ _ h2⟩
      · rw [List.getElem?_append_right (by omega)] at hy
        have hi0 : i = n := by
          have := (List.getElem?_eq_some_iff.mp hy).1
          rw [List.length_singleton] at this
          omega
        subst hi0
        rw [hxl, Nat.sub_self] at hy
        cases hy
        exact ⟨D, rfl, by rw [hide_out nDl]; exact hD⟩
    · rw [upd_same, show n + 2 - 1 = n + 1 from rfl, List.take_add_one]
      have hk2 : k[n]? = some (M14.kAt k n) := by
        have hlt : n < k.length := by rw [hsh.kin]; exact hn
        unfold M14.kAt
        rw [List.getD_eq_getElem?_getD, List.getElem?_eq_getElem hlt]
        rfl
      rw [hk2, List.map_append]
      rfl
    · rw [e6]
      exact hide_mono s14
end
end Lw
namespace Lw
open PySem PySem.Spec PyProof.Rows L3
open L2 hiding del del_same del_ne
theorem split_row {sg : List Nat} {R : List (List Nat)} {k : List Bool} (h : M90.Ok sg R k) {n : Nat} {l : List Nat} (hl : (M90.rows sg R k)[n]? = some l) : ∃ ws, (M90.allW sg R k)[n]? = some ws ∧ l = M90.jn ws ∧ Txt.split (tS l) (" " : Str) = ws.map tS ∧ l.length ≤ 48 := by
  have hl2 := hl
  unfold M90.rows at hl
  rw [List.getElem?_map] at hl
  obtain ⟨ws, h1, rfl⟩ := Option.map_eq_some_iff.mp hl
  refine ⟨ws, h1, rfl, ?_, M90.row_few h _ (List.mem_of_getElem? hl2)⟩
  have hm := List.mem_of_getElem? h1
  have ne : ws ≠ [] := by
    unfold M90.allW at hm
    rcases List.mem_cons.mp hm with e | e
    · rw [e]; exact List.cons_ne_nil _ _
    · obtain ⟨p, _, rfl⟩ := List.mem_map.mp e
      exact List.cons_ne_nil _ _
  have e := SX.split_S (a := M90.jn ws) (b := [32]) (by decide) (by decide)
  rw [M90.split_words ne (h.words_sgn ws hm)] at e
  exact e
section
variable {P : Program} {w : World} {K : PySem.W.Frag} {mg : Str → Option Value} {base : Heap}
def spTakeR (K : PySem.W.Frag) (C : Addr) : Sp := fun vs H Q _ => ∃ (x dx r q : Addr) (sg : List Nat) (R : List (List Nat)) (k : List Bool) (n : Nat) (l : List Nat), vs = [.ref x, tx l] ∧ RdS C H x dx r q sg R k n ∧ M90.Ok sg R k ∧ Lets sg ∧ (M90.rows sg R k)[n]? = some l ∧
  ∀ H', RdS C H' x dx r q sg R k (n + 1) → Same (hide [x, r, q] H) (hide [x, r, q] H') → Q (.bl true) H'
theorem ok_MachineReader_take (T : All K mg) (F : XF w T) : FnOk P w K mg base CX0 3 T.f_MachineReader_take T.d_MachineReader_take ["self", "line"] (spTakeR K T.C_MachineReader) := by
  refine T.MachineReader_take.F.ok sc_MachineReader_take (fun vs H Q E h => ?_) (fun cdv A outer s H vs Q E hr h => ?_)
  · obtain ⟨x, dx, r, q, sg, R, k, n, l, rfl, _⟩ := h
    rfl
  · obtain ⟨x, dx, r, q, sg, R, k, n, l, rfl, hR, hO, hL, hl, qq⟩ := h
    obtain ⟨ws, hws, el, esp, hll⟩ := split_row hO hl
    refine ⟨_, pss_cons (ps_set (i := 2) sc_MachineReader_take.nd rfl (by first | exact Or.inl rfl | exact Or.inr rfl) (pe_bm PySem.F.plainAttrs_str PySem.F.slot_str_split PySem.F.type_str_split mt_split (pv 1) (pa_cons pe_str pa_nil)))
      (pss_cons (ps_if (pt_cmpR op_isN (pe_fld (pv 0) rfl) pe_non (nomark _)) (pss_cons (ps_if (PW.pt (pw_or (pt_cmpR op_ne (pe_callB call_len_seq (by rfl) T.b_len PySem.boot_len (pa_cons (pv 2) pa_nil)) pe_int (nomark _)) (pw_or (pt_cmpR op_ne (pe_ix ix_list (pv 2) pe_int (fun _ _ => rfl)) pe_str (nomark _)) (pw_or1 (pt_not (pt_val (pe_call (ok_are_letters T) (hr.mono (by decide)) (by rfl) T.are_letters.g T.are_letters.F.kp T.are_letters.b .nil pass0 (pa_cons (pe_ix ix_list (pv 2) pe_int (fun _ _ => rfl)) pa_nil)))))))) (pss_one (ps_ret pe_bl)) pss_nil)
      (pss_cons (ps_fld (pv 0) (pe_ix ix_list (pv 2) pe_int (fun _ _ => rfl)) rfl)
      (pss_one (ps_ret pe_bl)))) pss_nil)
      (pss_one (ps_ret (pe_meth (pv 0) T.cl_MachineReader T.MachineReader_take_place.m (ok_MachineReader_take_place T F) (hr.mono (by decide)) T.MachineReader_take_place.b .nil pass0 (pa_cons (pv 2) pa_nil))))), ?_⟩
    refine ⟨_, rfl, rfl, tS l, (" " : Str), rfl, rfl, rfl, by rw [show (tS l).length = _ from SX.S_len l, sizeLine_eq]; omega, ?_⟩
    rw [esp]
    intro p np
    rw [show (ws.map tS).map V.str = ws.map tx by rw [List.map_map]; rfl]
    have s1 := same_upd (o := .lst (ws.map tx)) np
    have h1 := upd_same (H := H) (a := p) (o := .lst (ws.map tx))
    have npl : p ∉ [x, r, q] := by
      have a1 : p ≠ x := fun e => by rw [e, hR.ob] at np; cases np
      have a2 : p ≠ r := fun e => by obtain ⟨xs, h, _⟩ := hR.ro; rw [e, h] at np; cases np
      have a3 : p ≠ q := fun e => by rw [e, hR.ki] at np; cases np
      simp [a1, a2, a3]
    have hR1 := hR.same s1
    have hSp : SqL K (hide [x, r, q] (upd H p (.lst (ws.map tx)))) p (ws.map tx) := .inl (.inl (by rw [hide_out npl]; exact h1))
    have hSp1 : SqL K (upd H p (.lst (ws.map tx))) p (ws.map tx) := .inl (.inl h1)
    have hid : Same (hide [x, r, q] H) (hide [x, r, q] (upd H p (.lst (ws.map tx)))) := hide_mono s1
    generalize upd H p (.lst (ws.map tx)) = H1 at *
    have atI1 : ∀ {a b : V} {r : List V}, atI (a :: b :: r) 1 = some b := fun {a b r} => atI_nat (j := 1) rfl
    rcases n with _ | n
    · have ew : ws = [M90.wLet, sg] := (Option.some.inj hws).symm
      subst ew
      have hob : H1 x = some (.ins T.C_MachineReader dx [("own_letters", .non), ("own_rows", .ref r), ("own_kinds", .ref q)]) := by
        have := hR1.ob
        rwa [if_pos rfl] at this
      refine ⟨_, rfl, x, T.C_MachineReader, dx, _, _, rfl, hob, T.cl_MachineReader, T.n_MachineReader_own_letters, rfl, rfl, _, rfl, ite_t rfl ?_⟩
      refine ⟨_, rfl, p, _, rfl, .inl hSp1, rfl, _, rfl, ite_f rfl ?_⟩
      refine ⟨_, rfl, p, _, _, _, rfl, rfl, hSp1, atI_0, rfl, _, rfl, ite_f (by rw [show decide (tx M90.wLet = V.str "letters") = true from decide_eq_true rfl]; rfl) ?_⟩
      refine ⟨_, rfl, p, _, _, _, rfl, rfl, hSp1, atI1, sg, rfl, hL, fun H2 s2 => ⟨true, rfl, iteF ?_⟩⟩
      refine ⟨_, rfl, p, _, _, _, rfl, rfl, sq_same hSp1 s2, atI1, _, rfl, x, T.C_MachineReader, dx, _, rfl, s2 _ _ hob, T.cl_MachineReader, T.n_MachineReader_own_letters, by show (3 : Nat) < 1000; decide, ?_⟩
      have hR2 := hR1.same s2
      have e3 : hide [x, r, q] (upd H2 x (.ins T.C_MachineReader dx (putF "own_letters" (tx sg) [("own_letters", .non), ("own_rows", .ref r), ("own_kinds", .ref q)]))) = hide [x, r, q] H2 := hide_upd (by simp)
      obtain ⟨xs, hrr, hxl, hxs⟩ := hR2.ro
      refine qq _ ⟨upd_same, hR2.xr, hR2.xq, hR2.rq, ⟨xs, by rw [upd_ne hR2.xr.symm]; exact hrr, hxl, by rw [e3]; exact hxs⟩, by rw [upd_ne hR2.xq.symm]; exact hR2.ki⟩ (by rw [e3]; exact hid.trans (hide_mono s2))
    · have hlt : n < R.length := by
        have := (List.getElem?_eq_some_iff.mp hws).1
        unfold M90.allW at this
        simp at this
        exact this
      have ew : ws = M90.rowW R k n := by
        unfold M90.allW at hws
        rw [List.getElem?_cons_succ, List.getElem?_map, List.getElem?_range hlt] at hws
        exact (Option.some.inj hws).symm
      subst ew
      have hob : H1 x = some (.ins T.C_MachineReader dx [("own_letters", tx sg), ("own_rows", .ref r), ("own_kinds", .ref q)]) := by
        have := hR1.ob
        rwa [if_neg (by omega)] at this
      refine ⟨_, rfl, x, T.C_MachineReader, dx, _, _, rfl, hob, T.cl_MachineReader, T.n_MachineReader_own_letters, rfl, rfl, _, rfl, ite_f (by rw [decide_eq_false (by simp)]) ?_⟩
      refine ⟨_, rfl, x, dx, _, rfl, hob, rfl, _, rfl, x, dx, r, q, p, sg, R, k, n, rfl, hR1, hO, hlt, hSp, fun H2 hR2 s2 => ?_⟩
      exact qq _ hR2 (hid.trans s2)
def spLack (K : PySem.W.Frag) (C : Addr) : Sp := fun vs H Q _ => ∃ (x dx r q : Addr) (sg : List Nat) (R : List (List Nat)) (k : List Bool), vs = [.ref x] ∧ RdS C H x dx r q sg R k (R.length + 1) ∧ M90.Ok sg R k ∧
  ∀ H', RdS C H' x dx r q sg R k (R.length + 1) → Same H H' → Q (.bl false) H'
theorem ok_MachineReader_is_lacking (T : All K mg) : FnOk P w K mg base CX0 1 T.f_MachineReader_is_lacking T.d_MachineReader_is_lacking ["self"] (spLack K T.C_MachineReader) := by
  refine T.MachineReader_is_lacking.F.ok sc_MachineReader_is_lacking (fun vs H Q E h => ?_) (fun cdv A outer s H vs Q E hr h => ?_)
  · obtain ⟨x, dx, r, q, sg, R, k, rfl, _⟩ := h
    rfl
  · obtain ⟨x, dx, r, q, sg, R, k, rfl, hR, hO, qq⟩ := h
    refine ⟨_, pss_one (ps_ret (pe_cmpR (op_eqD (u64 hr)) (pe_fld (pv 0) rfl) (pe_lst pa_nil) (by rfl))), ?_⟩
    obtain ⟨xs, hrr, hxl, hxs⟩ := hR.ro
    have hxl : xs.length = R.length := hxl
    have hob : H x = some (.ins T.C_MachineReader dx [("own_letters", tx sg), ("own_rows", .ref r), ("own_kinds", .ref q)]) := by
      have := hR.ob
      rwa [if_neg (by omega)] at this
    refine ⟨_, rfl, x, T.C_MachineReader, dx, _, _, rfl, hob, T.cl_MachineReader, T.n_MachineReader_own_rows, rfl, by show 0 ≤ sizeLine; decide, fun p np => ?_⟩
    have s1 := same_upd (o := .lst []) np
    have h1 := upd_same (H := H) (a := p) (o := .lst [])
    generalize upd H p (.lst []) = H1 at *
    have hdp : Dp K H1 (.ref r) (dLR R) := .lst (.inl (.inl (s1 _ _ hrr))) (dpAll_of (by rw [List.length_map]; exact hxl) fun i y d hy hd => by
      obtain ⟨b, rfl, hb⟩ := hxs i y hy
      rw [List.getElem?_map] at hd
      obtain ⟨rr, hr1, rfl⟩ := Option.map_eq_some_iff.mp hd
      rw [M14.row_get hr1] at hb
      exact .lst (.inl (.inl (s1 _ _ (hide_le _ _ hb)))) (dpAll_nV rr))
    refine ⟨dLR R, .list [], hdp, .lst (.inl (.inl h1)) .nil, (wt_dLR hO.sht hO.few).shaped (by decide), by decide +kernel, ?_⟩
    have e : PyData.eqv (dLR R) (.list []) = false := by
      cases R with
      | nil => exact absurd hO.sht.ne (by decide)
      | cons a R => rfl
    rw [e]
    exact qq _ (hR.same s1) s1
def spRMade (K : PySem.W.Frag) (C CM : Addr) : Sp := fun vs H Q _ => ∃ (x dx r q : Addr) (sg : List Nat) (R : List (List Nat)) (k : List Bool), vs = [.ref x] ∧ RdS C H x dx r q sg R k (R.length + 1) ∧ Lets sg ∧ M14.Good sg.length R k ∧ NewM K CM H Q sg R k
theorem ok_MachineReader_made (T : All K mg) : FnOk P w K mg base CX0 6 T.f_MachineReader_made T.d_MachineReader_made ["self"] (spRMade K T.C_MachineReader T.C_Machine) := by
  refine T.MachineReader_made.F.ok sc_MachineReader_made (fun vs H Q E h => ?_) (fun cdv A outer s H vs Q E hr h => ?_)
  · obtain ⟨x, dx, r, q, sg, R, k, rfl, _⟩ := h
    rfl
  · obtain ⟨x, dx, r, q, sg, R, k, rfl, hR, hL, hG, qq⟩ := h
    refine ⟨_, pss_cons (ps_for PassesOwn.never rfl (pi_enumS rfl T.b_enumerate (pa_cons (pe_fld (pv 0) rfl) pa_nil)) (pg_tup rfl (pgs_cons (pg_name (i := 1) sc_MachineReader_made.nd rfl (by first | exact Or.inl rfl | exact Or.inr rfl)) (pgs_cons (pg_name (i := 2) sc_MachineReader_made.nd rfl (by first | exact Or.inl rfl | exact Or.inr rfl)) pgs_nil)))
        (pss_one (ps_if (pt_cmpR op_ge (pe_callB (cr_max rfl) (by rfl) T.b_max PyProof.Rows.boot_max (pa_cons (pv 2) pa_nil)) (pe_callB call_len_seq (by rfl) T.b_len PySem.boot_len (pa_cons (pe_fld (pv 0) rfl) pa_nil)) (nomark _)) (pss_one ps_never) pss_nil)))
      (pss_cons (ps_try_thru0 (pss_one (ps_set (i := 3) sc_MachineReader_made.nd rfl (by first | exact Or.inl rfl | exact Or.inr rfl) (pe_make ⟨T.mk_Machine, T.Machine_init.m.at_, T.Machine_init.m.fn, T.kp_Machine⟩ (ok_Machine_init T) (hr.mono (by decide)) (by rfl) T.g_Machine T.Machine_init.b .nil pass0 (pa_cons (pe_fld (pv 0) rfl) (pa_cons (pe_fld (pv 0) rfl) (pa_cons (pe_fld (pv 0) rfl) pa_nil)))))))
      (pss_one (ps_ret (pv 3)))), ?_⟩
    obtain ⟨xs, hrr, hxl, hxs⟩ := hR.ro
    have hxl : xs.length = R.length := hxl
    have hki : H q = some (.lst (k.map V.bl)) := by
      have := hR.ki
      rwa [List.take_of_length_le (by have := hG.kin; omega)] at this
    have hob : H x = some (.ins T.C_MachineReader dx [("own_letters", tx sg), ("own_rows", .ref r), ("own_kinds", .ref q)]) := by
      have := hR.ob
      rwa [if_neg (by omega)] at this
    have hrow : ∀ (i : Nat) (y : V) (rr : List Nat), xs[i]? = some y → R[i]? = some rr → ∃ b, y = .ref b ∧ H b = some (.lst (nV rr)) := fun i y rr h1 h2 => by
      obtain ⟨b, rfl, hb⟩ := hxs i y h1
      rw [M14.row_get h2] at hb
      exact ⟨b, rfl, hide_le _ _ hb⟩
    have hfew := hG.few
    refine ⟨_, rfl, x, T.C_MachineReader, dx, _, _, rfl, hob, T.cl_MachineReader, T.n_MachineReader_own_rows, rfl, .L r, xs, rfl, .inl (.inl hrr), ?_⟩
    refine for_it walk_enumS (fun i σ H' => ∃ p g, σ = [some (.ref x), p, g, none, none] ∧ Same H H') ⟨none, none, rfl, Same.refl _⟩ (fun i σ H' _ p => by obtain ⟨_, _, _, sm⟩ := p; exact .inl (.inl (sm _ _ hrr))) (fun i v σ H3 H4 hi p y => ?_) (fun σ H3 p => ?_)
    · obtain ⟨p0, r0, rfl, sm⟩ := p
      obtain ⟨Tp, x1, x2, rfl, nT, rfl, e1, e2⟩ := y
      cases e1
      have hiR : i < R.length := by omega
      obtain ⟨b, rfl, hb⟩ := hrow i x2 _ e2 (M14.row_at hiR)
      have sm2 := same_up (o := .tup [.int (i : Nat), .ref b]) sm (sm.free nT)
      have hTp := upd_same (H := H3) (a := Tp) (o := .tup [.int (i : Nat), .ref b])
      generalize upd H3 Tp (.tup [.int (i : Nat), .ref b]) = H5 at *
      refine ⟨Tp, _, rfl, .inl (.inl hTp), rfl, _, _, rfl, _, _, rfl, rfl, ?_⟩
      have hsgl := hG.len _ (M14.row_mem hiR)
      have eN : nV (M14.row R i) = ((M14.row R i).map fun g => ((g : Nat) : Int)).map V.int := by unfold nV; rw [List.map_map]; rfl
      refine ⟨_, rfl, b, _, rfl, .inl (.inl (by rw [← eN]; exact sm2 _ _ hb)), by rw [List.length_map, hsgl]; exact hL.ne, fun m hm _ => ?_⟩
      obtain ⟨g, hg, rfl⟩ := List.mem_map.mp hm
      have hgv := hG.val i hiR g hg
      refine ⟨_, rfl, x, T.C_MachineReader, dx, _, _, rfl, sm2 _ _ hob, T.cl_MachineReader, T.n_MachineReader_own_rows, rfl, r, xs, rfl, .inl (.inl (.inl (sm2 _ _ hrr))), _, _, rfl, rfl, _, rfl, ite_f (decide_eq_false (by omega)) ⟨_, _, rfl, sm2⟩⟩
    · obtain ⟨p0, r0, rfl, sm⟩ := p
      have hob3 := sm _ _ hob
      refine ⟨_, rfl, x, T.C_MachineReader, dx, _, _, rfl, hob3, T.cl_MachineReader, T.n_MachineReader_own_letters, rfl, _, rfl, x, T.C_MachineReader, dx, _, _, rfl, hob3, T.cl_MachineReader, T.n_MachineReader_own_rows, rfl, _, rfl, x, T.C_MachineReader, dx, _, _, rfl, hob3, T.cl_MachineReader, T.n_MachineReader_own_kinds, rfl, ?_⟩
      intro m1 dx_m1 n_m1 nd_m1 _
      refine make_ok (k := k) hL ⟨xs, sq_list (.inl (.inl (sm _ _ hrr))), hxl, fun i y rr h1 h2 => ?_⟩ (sq_list (.inl (.inl (sm _ _ hki)))) hG n_m1 nd_m1 (fun H2 s2 hM1 => ?_)
      · obtain ⟨b, rfl, hb⟩ := hrow i y rr h1 h2
        exact sq_list (.inl (.inl (sm _ _ hb)))
      · exact ⟨_, rfl, qq _ _ (sm.trans s2) (sm.free n_m1) hM1⟩
end
end Lw
namespace Lw
open PySem PySem.Spec PyProof.Rows L3
open L2 hiding del del_same del_ne
theorem cutLast (l : List V) (a : V) : cutV (l ++ [a]) none (some (-1)) = l := by
  unfold cutV
  have e : HT.sIx (l ++ [a]).length (l ++ [a]).length (some (-1)) = l.length := by
    show (if ((-1 : Int) < 0) then ((-1 : Int) + ((l ++ [a]).length : Int)).toNat else min (-1 : Int).toNat (l ++ [a]).length) = _
    rw [if_pos (by decide), List.length_append, List.length_singleton]
    omega
  rw [e, HT.sIx_none, List.drop_zero, Nat.sub_zero, List.take_append_of_le_length (Nat.le_refl _), List.take_length]
theorem atLast (l : List V) (a : V) : atI (l ++ [a]) (-1) = some a := by
  have e : ixN (l ++ [a]).length (-1) = some l.length := by
    unfold ixN
    rw [if_neg (by decide), List.length_append, List.length_singleton]
    rw [if_pos (by omega)]
    congr 1
    omega
  unfold atI
  rw [e]
  show (l ++ [a])[l.length]? = some a
  simp
theorem split_text {sg : List Nat} {R : List (List Nat)} {k : List Bool} (h : M90.Ok sg R k) : (Txt.split (tS (M90.text sg R k)) ("\n" : Str)).map V.str = (M90.rows sg R k).map tx ++ [tx []] := by
  have e := SX.split_S (a := M90.text sg R k) (b := [10]) (by decide) (by decide)
  rw [h.split] at e
  refine (congrArg (fun z : List Str => z.map V.str) e).trans ?_
  rw [List.map_map, List.map_append]
  rfl
theorem out3 {H : Hp} {x r q p : Addr} {a b c : HO} (ha : H x = some a) (hb : H r = some b) (hc : H q = some c) (np : H p = none) : p ∉ [x, r, q] := by
  have a1 : p ≠ x := fun e => by rw [e, ha] at np; cases np
  have a2 : p ≠ r := fun e => by rw [e, hb] at np; cases np
  have a3 : p ≠ q := fun e => by rw [e, hc] at np; cases np
  simp [a1, a2, a3]
section
variable {P : Program} {w : World} {K : PySem.W.Frag} {mg : Str → Option Value} {base : Heap}
def spSInit (C : Addr) : Sp := fun vs H Q _ => ∃ (x dx : Addr), vs = [.ref x] ∧ H x = some (.ins C dx []) ∧ ∀ H' r, (∀ b o, H b = some o → b ≠ x → H' b = some o) → H' x = some (.ins C dx [("own_letters", .non), ("own_told", .ref r)]) → Q .non H'
theorem ok_SumReader_init (T : All K mg) : FnOk P w K mg base CX0 1 T.f_SumReader_init T.d_SumReader_init ["self"] (spSInit T.C_SumReader) := by
  refine T.SumReader_init.F.ok sc_SumReader_init (fun vs H Q E h => ?_) (fun cdv A outer s H vs Q E hr h => ?_)
  · obtain ⟨x, dx, rfl, _⟩ := h
    rfl
  · obtain ⟨x, dx, rfl, hx, q⟩ := h
    refine ⟨_, pss_cons (ps_fld (pv 0) pe_non rfl)
      (pss_one (ps_fld (pv 0) (pe_lst pa_nil) rfl)), ?_⟩
    refine ⟨_, rfl, x, T.C_SumReader, dx, [], rfl, hx, T.cl_SumReader, T.n_SumReader_own_letters, by decide, ?_⟩
    refine ⟨by show 0 ≤ sizeLine; decide, fun r n1 => ?_⟩
    have hxr : x ≠ r := fun e => by rw [← e, upd_same] at n1; cases n1
    have hrn : H r = none := by rw [upd_ne hxr.symm] at n1; exact n1
    refine ⟨_, rfl, x, T.C_SumReader, dx, _, rfl, by rw [upd_ne hxr, upd_same], T.cl_SumReader, T.n_SumReader_own_told, by show (1 : Nat) < 1000; decide, ?_⟩
    refine q _ r (fun b o e nb => ?_) upd_same
    rw [upd_ne nb, upd_ne (ne_of_none e hrn), upd_ne nb]
    exact e
def spSTake (C : Addr) : Sp := fun vs H Q _ => ∃ (x dx r : Addr) (sg : List Nat) (R : List (List Nat)) (k : List Bool) (l : List Nat), vs = [.ref x, tx l] ∧ H x = some (.ins C dx [("own_letters", .non), ("own_told", .ref r)]) ∧ M90.Ok sg R k ∧ (M90.rows sg R k)[0]? = some l ∧
  ∀ H', Same H H' → Q (.bl false) H'
theorem ok_SumReader_take (T : All K mg) : FnOk P w K mg base CX0 3 T.f_SumReader_take T.d_SumReader_take ["self", "line"] (spSTake T.C_SumReader) := by
  refine T.SumReader_take.F.ok sc_SumReader_take (fun vs H Q E h => ?_) (fun cdv A outer s H vs Q E hr h => ?_)
  · obtain ⟨x, dx, r, sg, R, k, l, rfl, _⟩ := h
    rfl
  · obtain ⟨x, dx, r, sg, R, k, l, rfl, hob, hO, hl, qq⟩ := h
    obtain ⟨ws, hws, el, esp, hll⟩ := split_row hO hl
    refine ⟨_, pss_cons (ps_set (i := 2) sc_SumReader_take.nd rfl (by first | exact Or.inl rfl | exact Or.inr rfl) (pe_bm PySem.F.plainAttrs_str PySem.F.slot_str_split PySem.F.type_str_split mt_split (pv 1) (pa_cons pe_str pa_nil)))
      (pss_cons (ps_if (pt_cmpR op_isN (pe_fld (pv 0) rfl) pe_non (nomark _)) (pss_cons (ps_if (PW.pt (pw_or (pt_cmpR op_ne (pe_callB call_len_seq (by rfl) T.b_len PySem.boot_len (pa_cons (pv 2) pa_nil)) pe_int (nomark _)) (pw_or (pt_cmpR op_ne (pe_ix ix_list (pv 2) pe_int (fun _ _ => rfl)) pe_str (nomark _)) (pw_or1 (pt_not (pt_val (pe_call (ok_are_letters T) (hr.mono (by decide)) (by rfl) T.are_letters.g T.are_letters.F.kp T.are_letters.b .nil pass0 (pa_cons (pe_ix ix_list (pv 2) pe_int (fun _ _ => rfl)) pa_nil)))))))) (pss_one (ps_ret pe_bl)) pss_nil)
      (pss_cons (ps_fld (pv 0) (pe_ix ix_list (pv 2) pe_int (fun _ _ => rfl)) rfl)
      (pss_one (ps_ret pe_bl)))) pss_nil)
      (pss_one (ps_ret (pe_and (pe_cmpR op_eq (pe_ix ix_list (pv 2) pe_int (fun _ _ => rfl)) pe_str (by rfl))
        (pe_one pe_never))))), ?_⟩
    refine ⟨_, rfl, rfl, tS l, (" " : Str), rfl, rfl, rfl, by rw [show (tS l).length = _ from SX.S_len l, sizeLine_eq]; omega, ?_⟩
    rw [esp]
    intro p np
    rw [show (ws.map tS).map V.str = ws.map tx by rw [List.map_map]; rfl]
    have s1 := same_upd (o := .lst (ws.map tx)) np
    have h1 := upd_same (H := H) (a := p) (o := .lst (ws.map tx))
    generalize upd H p (.lst (ws.map tx)) = H1 at *
    have hSp1 : SqL K H1 p (ws.map tx) := .inl (.inl h1)
    have ew : ws = [M90.wLet, sg] := (Option.some.inj hws).symm
    subst ew
    refine ⟨_, rfl, x, T.C_SumReader, dx, _, _, rfl, s1 _ _ hob, T.cl_SumReader, T.n_SumReader_own_letters, rfl, rfl, _, rfl, ite_t rfl ?_⟩
    refine ⟨_, rfl, p, _, rfl, .inl hSp1, rfl, _, rfl, ite_f rfl ?_⟩
    refine ⟨_, rfl, p, _, _, _, rfl, rfl, hSp1, atI_0, rfl, _, rfl, ite_t (by rw [show decide (tx M90.wLet = V.str "sum") = false by decide]; rfl) ?_⟩
    exact qq _ s1
def spReadBy (K : PySem.W.Frag) (C CM : Addr) : Sp := fun vs H Q _ => ∃ (x dx r q : Addr) (sg : List Nat) (R : List (List Nat)) (k : List Bool), vs = [.ref x, tx (M90.text sg R k)] ∧ RdS C H x dx r q sg R k 0 ∧ Lets sg ∧ M14.Good sg.length R k ∧
  ∀ H' m, Same (hide [x, r, q] H) H' → hide [x, r, q] H m = none → Mach CM K H' m sg R k → Q (.ref m) H'
theorem ok_read_by (T : All K mg) (F : XF w T) : FnOk P w K mg base CX0 7 T.f_read_by T.d_read_by ["reader", "written"] (spReadBy K T.C_MachineReader T.C_Machine) := by
  refine T.read_by.F.ok sc_read_by (fun vs H Q E h => ?_) (fun cdv A outer s H vs Q E hr h => ?_)
  · obtain ⟨x, dx, r, q, sg, R, k, rfl, _⟩ := h
    rfl
  · obtain ⟨x, dx, r, q, sg, R, k, rfl, hR, hL, hG, qq⟩ := h
    have hO : M90.Ok sg R k := ⟨hL.az, hL.ne, hL.few, hG.toSht⟩
    refine ⟨_, pss_cons (ps_if (pt_not (pt_val (pe_callB call_isi (by rfl) T.b_isinstance boot_isinstance (pa_cons (pv 1) (pa_cons (pe_bltn (v := .ty "str") (by rfl) T.b_str (by decide +kernel) rfl) pa_nil))))) (pss_one ps_never) pss_nil)
      (pss_cons (ps_set (i := 2) sc_read_by.nd rfl (by first | exact Or.inl rfl | exact Or.inr rfl) (pe_bm PySem.F.plainAttrs_str PySem.F.slot_str_split PySem.F.type_str_split mt_split (pv 1) (pa_cons pe_str pa_nil)))
      (pss_cons (ps_for PassesOwn.never rfl (pi_enumS rfl T.b_enumerate (pa_cons (pe_slice sl_list (pv 2) po_none (po_some (pe_un un_neg pe_int))) pa_nil)) (pg_tup rfl (pgs_cons (pg_name (i := 3) sc_read_by.nd rfl (by first | exact Or.inl rfl | exact Or.inr rfl)) (pgs_cons (pg_name (i := 4) sc_read_by.nd rfl (by first | exact Or.inl rfl | exact Or.inr rfl)) pgs_nil)))
        (pss_one (ps_if (pt_not (pt_val (pe_meth (pv 0) T.cl_MachineReader T.MachineReader_take.m (ok_MachineReader_take T F) (hr.mono (by decide)) T.MachineReader_take.b .nil pass0 (pa_cons (pv 4) pa_nil)))) (pss_one ps_never) pss_nil)))
      (pss_cons (ps_if (PW.pt (pw_or (pt_cmpR op_ne (pe_ix ix_list (pv 2) (pe_un un_neg pe_int) (fun _ _ => rfl)) pe_str (nomark _)) (pw_or1 (pt_val (pe_meth0 (pv 0) T.cl_MachineReader T.MachineReader_is_lacking.m (ok_MachineReader_is_lacking T) (hr.mono (by decide)) T.MachineReader_is_lacking.b .nil pass0))))) (pss_one ps_never) pss_nil)
      (pss_one (ps_ret (pe_meth0 (pv 0) T.cl_MachineReader T.MachineReader_made.m (ok_MachineReader_made T) (hr.mono (by decide)) T.MachineReader_made.b .nil pass0)))))), ?_⟩
    have hz := M90.text_few hO
    refine ⟨_, rfl, _, .ty "str", .type "str", .type "str", true, rfl, .ty _, .base (.str _), kit_ty (by decide +kernel), true, rfl, iteF ?_⟩
    refine ⟨_, rfl, rfl, tS (M90.text sg R k), ("\n" : Str), rfl, rfl, rfl, by rw [show (tS (M90.text sg R k)).length = _ from SX.S_len _, sizeLine_eq]; omega, ?_⟩
    intro p np
    rw [split_text hO]
    obtain ⟨xs0, hrr, _⟩ := id hR.ro
    have npl := out3 hR.ob hrr hR.ki np
    have s1 := same_upd (o := .lst ((M90.rows sg R k).map tx ++ [tx []])) np
    have h1 := upd_same (H := H) (a := p) (o := .lst ((M90.rows sg R k).map tx ++ [tx []]))
    generalize upd H p (.lst ((M90.rows sg R k).map tx ++ [tx []])) = H1 at *
    refine ⟨_, rfl, 1, rfl, _, rfl, p, _, rfl, .inl (.inl h1), fun p2 np2 => ?_⟩
    rw [cutLast]
    have np2l := out3 (hR.same s1).ob (s1 _ _ hrr) (hR.same s1).ki np2
    have s2 := same_upd (o := .lst ((M90.rows sg R k).map tx)) np2
    have h2 := upd_same (H := H1) (a := p2) (o := .lst ((M90.rows sg R k).map tx))
    have h12 := s2 _ _ h1
    have s12 := s1.trans s2
    generalize upd H1 p2 (.lst ((M90.rows sg R k).map tx)) = H2 at *
    refine ⟨.L p2, _, rfl, .inl (.inl h2), ?_⟩
    refine for_it walk_enumS (fun i σ H' => ∃ a b, σ = [some (.ref x), some (tx (M90.text sg R k)), some (.ref p), a, b] ∧ RdS T.C_MachineReader H' x dx r q sg R k i ∧ Same (hide [x, r, q] H2) (hide [x, r, q] H')) ⟨none, none, rfl, hR.same s12, Same.refl _⟩ (fun i σ H' _ p => by obtain ⟨_, _, _, _, sm⟩ := p; exact .inl (.inl (hide_keep sm h2 np2l))) (fun i v σ H3 H4 hi p' y => ?_) (fun σ H3 p' => ?_)
    · obtain ⟨a0, b0, rfl, hR3, sm⟩ := p'
      obtain ⟨Tp, x1, x2, rfl, nT, rfl, e1, e2⟩ := y
      cases e1
      have e2 : ((M90.rows sg R k).map tx)[i]? = some x2 := e2
      rw [List.getElem?_map] at e2
      obtain ⟨l, hl, rfl⟩ := Option.map_eq_some_iff.mp e2
      have sm2 := same_upd (o := .tup [.int (i : Nat), tx l]) nT
      have hTp := upd_same (H := H3) (a := Tp) (o := .tup [.int (i : Nat), tx l])
      generalize upd H3 Tp (.tup [.int (i : Nat), tx l]) = H5 at *
      have hR5 := hR3.same sm2
      refine ⟨Tp, _, rfl, .inl (.inl hTp), rfl, _, _, rfl, _, _, rfl, rfl, ?_⟩
      exact ⟨_, rfl, x, dx, _, rfl, hR5.ob, rfl, _, rfl, x, dx, r, q, sg, R, k, i, l, rfl, hR5, hO, hL, hl, fun H6 hR6 s6 => ⟨true, rfl, iteF ⟨_, _, rfl, hR6, sm.trans ((hide_mono sm2).trans s6)⟩⟩⟩
    · obtain ⟨a0, b0, rfl, hR3, sm⟩ := p'
      rw [List.length_map, M90.rows_len] at hR3
      have h3 := hide_keep sm h12 npl
      refine ⟨_, rfl, 1, rfl, p, _, _, _, rfl, rfl, .inl (.inl h3), atLast _ _, rfl, _, rfl, ite_f (by rw [show decide (tx [] = V.str "") = true from decide_eq_true rfl]; rfl) ?_⟩
      refine ⟨_, rfl, x, dx, _, rfl, hR3.ob, rfl, x, dx, r, q, sg, R, k, rfl, hR3, hO, fun H7 hR7 s7 => ⟨false, rfl, iteF ?_⟩⟩
      have sAll : Same (hide [x, r, q] H) H7 := (hide_mono s12).trans (sm.trans (hide_le.trans s7))
      exact ⟨_, rfl, x, dx, _, rfl, hR7.ob, rfl, x, dx, r, q, sg, R, k, rfl, hR7, hL, hG, fun H8 m s8 n8 hM => qq H8 m (sAll.trans s8) (sAll.free n8) hM⟩
def spReadX (C Ce : Addr) : Sp := fun vs H Q E => ∃ (x dx r : Addr) (sg : List Nat) (R : List (List Nat)) (k : List Bool), vs = [.ref x, tx (M90.text sg R k)] ∧ H x = some (.ins C dx [("own_letters", .non), ("own_told", .ref r)]) ∧ M90.Ok sg R k ∧
  ∀ H' d, Same H H' → H' d = some (.xd [("row", .int 1)]) → E (.ref Ce) (some d) H'
theorem ok_read_byX (T : All K mg) : FnOk PW w K mg base (L2.CX PW w) 7 T.f_read_by T.d_read_by ["reader", "written"] (spReadX T.C_SumReader T.C_InvalidRow) := by
  refine T.read_by.F.okX sc_read_by (fun vs H Q E h => ?_) (fun cdv A outer s H vs Q E hr h => ?_)
  · obtain ⟨x, dx, r, sg, R, k, rfl, _⟩ := h
    rfl
  · obtain ⟨x, dx, r, sg, R, k, rfl, hob, hO, qE⟩ := h
    refine ⟨_, pss_cons (ps_if (pt_not (pt_val (pe_callB call_isi (by rfl) T.b_isinstance boot_isinstance (pa_cons (pv 1) (pa_cons (pe_bltn (v := .ty "str") (by rfl) T.b_str (by decide +kernel) rfl) pa_nil))))) (pss_one (ps_raise1 rfl T.er_InvalidRow (hr.mono (by decide)) (takes_of rfl rfl rfl rfl) T.g_InvalidRow (pa_cons pe_int pa_nil))) pss_nil)
      (pss_cons (ps_set (i := 2) sc_read_by.nd rfl (by first | exact Or.inl rfl | exact Or.inr rfl) (pe_bm PySem.F.plainAttrs_str PySem.F.slot_str_split PySem.F.type_str_split mt_split (pv 1) (pa_cons pe_str pa_nil)))
      (pss_cons (ps_for (passes_of rfl) rfl (pi_enumS rfl T.b_enumerate (pa_cons (pe_slice sl_list (pv 2) po_none (po_some (pe_un un_neg pe_int))) pa_nil)) (pg_tup rfl (pgs_cons (pg_name (i := 3) sc_read_by.nd rfl (by first | exact Or.inl rfl | exact Or.inr rfl)) (pgs_cons (pg_name (i := 4) sc_read_by.nd rfl (by first | exact Or.inl rfl | exact Or.inr rfl)) pgs_nil)))
        (pss_one (ps_if (pt_not (pt_val (pe_meth (pv 0) T.cl_SumReader T.SumReader_take.m (ok_SumReader_take T) (hr.mono (by decide)) T.SumReader_take.b .nil pass0 (pa_cons (pv 4) pa_nil)))) (pss_one (ps_raise1 rfl T.er_InvalidRow (hr.mono (by decide)) (takes_of rfl rfl rfl rfl) T.g_InvalidRow (pa_cons (pe_op op_add (pv 3) pe_int) pa_nil))) pss_nil)))
      (pss_cons (ps_if (PW.pt (pw_or (pt_cmpR op_ne (pe_ix ix_list (pv 2) (pe_un un_neg pe_int) (fun _ _ => rfl)) pe_str (nomark _)) (pw_or1 (pt_val pe_never)))) (pss_one (ps_raise1 rfl T.er_InvalidRow (hr.mono (by decide)) (takes_of rfl rfl rfl rfl) T.g_InvalidRow (pa_cons (pe_callB call_len_seq (by rfl) T.b_len PySem.boot_len (pa_cons (pv 2) pa_nil)) pa_nil))) pss_nil)
      (pss_one (ps_ret pe_never))))), ?_⟩
    have hz := M90.text_few hO
    refine ⟨_, rfl, _, .ty "str", .type "str", .type "str", true, rfl, .ty _, .base (.str _), kit_ty (by decide +kernel), true, rfl, iteF ?_⟩
    refine ⟨_, rfl, rfl, tS (M90.text sg R k), ("\n" : Str), rfl, rfl, rfl, by rw [show (tS (M90.text sg R k)).length = _ from SX.S_len _, sizeLine_eq]; omega, ?_⟩
    intro p np
    rw [split_text hO]
    have s1 := same_upd (o := .lst ((M90.rows sg R k).map tx ++ [tx []])) np
    have h1 := upd_same (H := H) (a := p) (o := .lst ((M90.rows sg R k).map tx ++ [tx []]))
    generalize upd H p (.lst ((M90.rows sg R k).map tx ++ [tx []])) = H1 at *
    refine ⟨_, rfl, 1, rfl, _, rfl, p, _, rfl, .inl (.inl h1), fun p2 np2 => ?_⟩
    rw [cutLast]
    have s2 := same_upd (o := .lst ((M90.rows sg R k).map tx)) np2
    have h2 := upd_same (H := H1) (a := p2) (o := .lst ((M90.rows sg R k).map tx))
    have s12 := s1.trans s2
    generalize upd H1 p2 (.lst ((M90.rows sg R k).map tx)) = H2 at *
    refine ⟨.L p2, _, rfl, .inl (.inl h2), ?_⟩
    refine for_it walk_enumS (fun i σ H' => i = 0 ∧ ∃ a b, σ = [some (.ref x), some (tx (M90.text sg R k)), some (.ref p), a, b] ∧ Same H2 H') ⟨rfl, none, none, rfl, Same.refl _⟩ (fun i σ H' _ p => by obtain ⟨_, _, _, _, sm⟩ := p; exact .inl (.inl (sm _ _ h2))) (fun i v σ H3 H4 hi p' y => ?_) (fun σ H3 p' => ?_)
    · obtain ⟨rfl, a0, b0, rfl, sm⟩ := p'
      obtain ⟨Tp, x1, x2, rfl, nT, rfl, e1, e2⟩ := y
      cases e1
      have e2 : ((M90.rows sg R k).map tx)[0]? = some x2 := e2
      rw [List.getElem?_map] at e2
      obtain ⟨l, hl, rfl⟩ := Option.map_eq_some_iff.mp e2
      have sm2 := same_upd (o := .tup [.int ((0 : Nat) : Nat), tx l]) nT
      have hTp := upd_same (H := H3) (a := Tp) (o := .tup [.int ((0 : Nat) : Nat), tx l])
      generalize upd H3 Tp (.tup [.int ((0 : Nat) : Nat), tx l]) = H5 at *
      have s05 := s12.trans (sm.trans sm2)
      refine ⟨Tp, _, rfl, .inl (.inl hTp), rfl, _, _, rfl, _, _, rfl, rfl, ?_⟩
      refine ⟨_, rfl, x, dx, _, rfl, s05 _ _ hob, rfl, _, rfl, x, dx, r, sg, R, k, l, rfl, s05 _ _ hob, hO, hl, fun H6 s6 => ⟨false, rfl, iteT ?_⟩⟩
      exact ⟨_, rfl, _, _, rfl, rfl, _, rfl, fun d nd => qE _ d (s05.trans (s6.trans (same_upd nd))) upd_same⟩
    · obtain ⟨h0, _⟩ := p'
      rw [List.length_map, M90.rows_len] at h0
      omega
def spReadM (K : PySem.W.Frag) (CM : Addr) : Sp := fun vs H Q _ => ∃ (sg : List Nat) (R : List (List Nat)) (k : List Bool), vs = [tx (M90.text sg R k)] ∧ Lets sg ∧ M14.Good sg.length R k ∧ NewM K CM H Q sg R k
theorem ok_read_machine (T : All K mg) (F : XF w T) : FnOk P w K mg base CX0 8 T.f_read_machine T.d_read_machine ["written"] (spReadM K T.C_Machine) := by
  refine T.read_machine.F.ok sc_read_machine (fun vs H Q E h => ?_) (fun cdv A outer s H vs Q E hr h => ?_)
  · obtain ⟨sg, R, k, rfl, _⟩ := h
    rfl
  · obtain ⟨sg, R, k, rfl, hL, hG, qq⟩ := h
    refine ⟨_, pss_one (ps_ret (pe_call (ok_read_by T F) (hr.mono (by decide)) (by rfl) T.read_by.g T.read_by.F.kp T.read_by.b .nil pass0 (pa_cons (pe_make0 ⟨T.mk_MachineReader, T.MachineReader_init.m.at_, T.MachineReader_init.m.fn, T.kp_MachineReader⟩ (ok_MachineReader_init T) (hr.mono (by decide)) (by rfl) T.g_MachineReader T.MachineReader_init.b .nil pass0) (pa_cons (pv 0) pa_nil)))), ?_⟩
    intro x dx nx ndx nxd
    refine ⟨x, dx, rfl, upd_same, fun H1 r q hk hR hr1 hq1 => ⟨rfl, ?_⟩⟩
    have s1 : Same H H1 := Same.made nx ndx hk
    have hrn : H r = none := (same_up (same_upd ndx) nx).free hr1
    have hqn : H q = none := (same_up (same_upd ndx) nx).free hq1
    have sh : Same H (hide [x, r, q] H1) := fun b o e => by
      rw [hide_out]
      · exact s1 _ _ e
      · have a1 := ne_of_none e nx
        have a2 := ne_of_none e hrn
        have a3 := ne_of_none e hqn
        simp [a1, a2, a3]
    refine ⟨_, rfl, x, dx, r, q, sg, R, k, rfl, hR sg R k, hL, hG, fun H' m s2 n2 hM => qq H' m (sh.trans s2) (sh.free n2) hM⟩
def spReadS (Ce : Addr) : Sp := fun vs H Q E => ∃ (sg : List Nat) (R : List (List Nat)) (k : List Bool), vs = [tx (M90.text sg R k)] ∧ M90.Ok sg R k ∧ ∀ H' d, Same H H' → H' d = some (.xd [("row", .int 1)]) → E (.ref Ce) (some d) H'
theorem ok_read_sum (T : All K mg) : FnOk PW w K mg base (L2.CX PW w) 8 T.f_read_sum T.d_read_sum ["written"] (spReadS T.C_InvalidRow) := by
  refine T.read_sum.F.okX sc_read_sum (fun vs H Q E h => ?_) (fun cdv A outer s H vs Q E hr h => ?_)
  · obtain ⟨sg, R, k, rfl, _⟩ := h
    rfl
  · obtain ⟨sg, R, k, rfl, hO, qE⟩ := h
    refine ⟨_, pss_one (ps_ret (pe_call (ok_read_byX T) (hr.mono (by decide)) (by rfl) T.read_by.g T.read_by.F.kp T.read_by.b .nil (passes_call (takes_of rfl rfl rfl rfl) (fun _ _ _ _ h => h)) (pa_cons (pe_make0 ⟨T.mk_SumReader, T.SumReader_init.m.at_, T.SumReader_init.m.fn, T.kp_SumReader⟩ (ok_SumReader_init T) (hr.mono (by decide)) (by rfl) T.g_SumReader T.SumReader_init.b .nil pass0) (pa_cons (pv 0) pa_nil)))), ?_⟩
    intro x dx nx ndx nxd
    refine ⟨x, dx, rfl, upd_same, fun H1 r hk hob => ⟨rfl, ?_⟩⟩
    have s1 : Same H H1 := Same.made nx ndx hk
    exact ⟨_, rfl, x, dx, r, sg, R, k, rfl, hob, hO, fun H' d s2 hd => qE H' d (s1.trans s2) hd⟩
end
end Lw
namespace Lw
open PySem PySem.Spec PyProof.Rows L3
open L2 hiding del del_same del_ne
section
variable {P : Program} {w : World} {K : PySem.W.Frag} {mg : Str → Option Value} {base : Heap}
/-- a pot: two numbers -/
def Pot (H : Hp) (a : Addr) : Prop := ∃ x y : Int, H a = some (.lst [.int x, .int y]) ∧ 0 ≤ x ∧ 0 ≤ y ∧ y < 4294967296
/-- all but a stays -/
def Off (a : Addr) (H H' : Hp) : Prop := ∀ b o, H b = some o → b ≠ a → H' b = some o
theorem Off.refl (a : Addr) (H : Hp) : Off a H H := fun _ _ e _ => e
theorem Off.trans {a : Addr} {H H1 H2 : Hp} (x : Off a H H1) (y : Off a H1 H2) : Off a H H2 := fun b o e n => y b o (x b o e n) n
theorem Off.of {a : Addr} {H H' : Hp} (s : Same H H') : Off a H H' := fun b o e _ => s b o e
theorem Off.up {a p : Addr} {H H' : Hp} {o : HO} (x : Off a H H') (h : H p = none) : Off a H (upd H' p o) := fun b u e n => by
  rw [upd_ne (ne_of_none e h)]
  exact x b u e n
theorem Off.at {a : Addr} {H H' : Hp} {o : HO} (x : Off a H H') : Off a H (upd H' a o) := fun b u e n => by
  rw [upd_ne n]
  exact x b u e n
theorem Pot.some {H : Hp} {a : Addr} (h : Pot H a) : H a ≠ none := fun e => by
  obtain ⟨x, y, h, _⟩ := h
  rw [e] at h
  cases h
theorem Off.free {a : Addr} {H H' : Hp} (x : Off a H H') {l : Addr} (h : H' l = none) (hp : Pot H' a) : H l = none := by
  cases q : H l with
  | none => rfl
  | some o =>
    by_cases e : l = a
    · subst e
      exact absurd h hp.some
    · rw [x l o q e] at h
      cases h
theorem Off.seq {K : PySem.W.Frag} {a l : Addr} {H H' : Hp} {xs : List V} (x : Off a H H') (n : l ≠ a) (h : SqL K H l xs) : SqL K H' l xs := by
  rcases h with (h | ⟨o, h⟩) | h
  · exact .inl (.inl (x _ _ h n))
  · exact .inl (.inr ⟨o, x _ _ h n⟩)
  · exact .inr h
def spPot (K : PySem.W.Frag) : Sp := fun vs H Q _ => ∃ (a : Addr) (ns : List Int) (k : Nat), vs = [.ref a, .int (k : Int)] ∧ SqL K H a (ns.map V.int) ∧ k ≤ 10 ∧ ∀ H' p, Same H H' → H p = none → Pot H' p → Q (.ref p) H'
theorem pot_fin {H : Hp} {p : Addr} {z : Int} (x : Int) : Pot (upd H p (.lst [.int (if x > 0 then x else 0), .int (z % 2147483579 + 1)])) p := by
  refine ⟨_, _, upd_same, ?_, ?_, ?_⟩
  · split <;> omega
  · omega
  · omega
theorem ok_law_pot (T : All K mg) : FnOk P w K mg base CX0 1 T.f_law_pot T.d_law_pot ["_law_script", "_law_k"] (spPot K) := by
  refine T.law_pot.F.ok sc_law_pot (fun vs H Q E h => ?_) (fun cdv A outer s H vs Q E hr h => ?_)
  · obtain ⟨a, ns, k, rfl, _⟩ := h
    rfl
  · obtain ⟨a, ns, k, rfl, hS, hk, q⟩ := h
    refine ⟨_, pss_cons (ps_set (i := 2) sc_law_pot.nd rfl (.inl rfl) (pe_op op_add (pe_op op_mul pe_int (pv 1)) pe_int))
      (pss_cons (ps_if (pt_cmpR op_lt (pv 1) (pe_callB call_len_seq (by rfl) T.b_len PySem.boot_len (pa_cons (pv 0) pa_nil)) (nomark _))
        (pss_one (ps_set (i := 2) sc_law_pot.nd rfl (.inl rfl) (pe_callB call_abs (by rfl) T.b_abs PyProof.Rows.boot_abs (pa_cons (pe_ix ix_list (pv 0) (pv 1) (fun _ _ => rfl)) pa_nil)))) pss_nil)
      (pss_one (ps_ret (pe_lst (pa_cons (pe_callB (call_max2 rfl) (by rfl) T.b_max PyProof.Rows.boot_max (pa_cons pe_int (pa_cons (pe_op op_sub (pv 2) (pe_op op_pow pe_int pe_int)) pa_nil)))
        (pa_cons (pe_op op_add (pe_op op_mod (pe_callTy call_int1 (by rfl) T.b_int PyProof.Rows.boot_int (pa_cons (pe_op op_add (pe_op op_add (pe_op op_mul (pe_op op_mod (pe_callTy call_int1 (by rfl) T.b_int PyProof.Rows.boot_int (pa_cons (pv 2) pa_nil)) pe_int) pe_int) (pe_op op_mul pe_int (pv 1))) pe_int) pa_nil)) pe_int) pe_int) pa_nil)))))), ?_⟩
    refine ⟨_, rfl, _, _, rfl, rfl, .inl ⟨by decide, by decide⟩, _, _, rfl, rfl, ?_⟩
    refine ⟨_, rfl, _, rfl, a, ns.map V.int, rfl, .inl hS, _, _, rfl, rfl, _, rfl, ite2 (fun e => ?_) (fun e => ?_)⟩
    · have hlt : k < ns.length := by
        have := of_decide_eq_true e
        rw [List.length_map] at this
        omega
      refine ⟨_, rfl, _, rfl, a, _, _, .int ns[k], rfl, rfl, hS, atI_nat (by rw [List.getElem?_map, List.getElem?_eq_getElem hlt]; rfl), _, rfl, ?_⟩
      refine ⟨_, rfl, 10, 18, rfl, rfl, ⟨by decide, by decide, by decide⟩, _, _, rfl, rfl, _, _, rfl, ?_⟩
      refine ⟨_, rfl, .inl ⟨_, rfl, _, _, rfl, rfl, (by show (0 : Int) < 2147483549; decide), _, _, rfl, rfl, .inr ⟨by decide, by decide⟩, _, rfl, _, _, rfl, rfl, .inl ⟨by decide, by decide⟩, _, _, rfl, rfl, _, _, rfl, rfl,
        .inl ⟨_, rfl, _, _, rfl, rfl, (by show (0 : Int) < 2147483579; decide), _, _, rfl, rfl, (by show 2 ≤ sizeLine; decide), fun p np => ?_⟩⟩⟩
      exact q _ p (same_upd np) np (pot_fin _)
    · refine ⟨_, rfl, 10, 18, rfl, rfl, ⟨by decide, by decide, by decide⟩, _, _, rfl, rfl, _, _, rfl, ?_⟩
      refine ⟨_, rfl, .inl ⟨_, rfl, _, _, rfl, rfl, (by show (0 : Int) < 2147483549; decide), _, _, rfl, rfl, .inr ⟨by decide, by decide⟩, _, rfl, _, _, rfl, rfl, .inl ⟨by decide, by decide⟩, _, _, rfl, rfl, _, _, rfl, rfl,
        .inl ⟨_, rfl, _, _, rfl, rfl, (by show (0 : Int) < 2147483579; decide), _, _, rfl, rfl, (by show 2 ≤ sizeLine; decide), fun p np => ?_⟩⟩⟩
      exact q _ p (same_upd np) np (pot_fin _)
def spDraw : Sp := fun vs H Q _ => ∃ (a : Addr) (n : Nat), vs = [.ref a, .int (n : Int)] ∧ Pot H a ∧ 0 < n ∧ n ≤ 1000000 ∧ ∀ (H' : Hp) (d : Nat), d < n → Pot H' a → Off a H H' → Q (.int (d : Int)) H'
theorem ix2_0 {x y : V} : ixN [x, y].length (0 : Int) = some 0 := rfl
theorem ix2_1 {x y : V} : ixN [x, y].length (1 : Int) = some 1 := rfl
theorem ok_law_draw (T : All K mg) : FnOk P w K mg base CX0 1 T.f_law_draw T.d_law_draw ["_law_pot_here", "_law_sides"] spDraw := by
  refine T.law_draw.F.ok sc_law_draw (fun vs H Q E h => ?_) (fun cdv A outer s H vs Q E hr h => ?_)
  · obtain ⟨a, n, rfl, _⟩ := h
    rfl
  · obtain ⟨a, n, rfl, hp, hn, hn2, q⟩ := h
    obtain ⟨x, y, ha, hx, hy, hy2⟩ := hp
    refine ⟨_, pss_cons (ps_if (pt_cmpR op_gt (pe_ix ix_list (pv 0) pe_int (fun _ _ => rfl)) pe_int (nomark _))
        (pss_cons (ps_asg (pe_callB call_divmod (by rfl) T.b_divmod PyProof.Rows.boot_divmod (pa_cons (pe_ix ix_list (pv 0) pe_int (fun _ _ => rfl)) (pa_cons (pv 1) pa_nil))) (pg_tup (by rfl) (pgs_cons (pg_sub (pv 0) pe_int set_list) (pgs_cons (pg_name (i := 2) sc_law_draw.nd rfl (.inl rfl)) pgs_nil))))
        (pss_one (ps_ret (pv 2)))) pss_nil)
      (pss_cons (ps_asg (pe_op op_mod (pe_callTy call_int1 (by rfl) T.b_int PyProof.Rows.boot_int (pa_cons (pe_op op_add (pe_op op_mul (pe_ix ix_list (pv 0) pe_int (fun _ _ => rfl)) pe_int) pe_int) pa_nil)) pe_int) (pg_sub (pv 0) pe_int set_list))
      (pss_one (ps_ret (pe_op op_mod (pe_callTy call_int1 (by rfl) T.b_int PyProof.Rows.boot_int (pa_cons (pe_op op_fdiv (pe_op op_mod (pe_callTy call_int1 (by rfl) T.b_int PyProof.Rows.boot_int (pa_cons (pe_op op_mul (pe_ix ix_list (pv 0) pe_int (fun _ _ => rfl)) (pe_ix ix_list (pv 0) pe_int (fun _ _ => rfl))) pa_nil)) pe_int) pe_int) pa_nil)) (pv 1))))), ?_⟩
    refine ⟨_, rfl, a, _, _, .int x, rfl, rfl, .inl (.inl ha), rfl, _, _, rfl, rfl, _, rfl, ite2 (fun e => ?_) (fun e => ?_)⟩
    · -- the pot's own digits
      have hx0 : 0 < x := of_decide_eq_true e
      refine ⟨_, rfl, a, _, _, .int x, rfl, rfl, .inl (.inl ha), rfl, _, rfl, x, n, rfl, ⟨by omega, by omega⟩, fun t nt => ?_⟩
      have nat' : a ≠ t := ne_of_none ha nt
      have ha2 : upd H t (.tup [.int (x / n), .int (x % n)]) a = some (.lst [.int x, .int y]) := by rw [upd_ne nat']; exact ha
      refine ⟨t, _, rfl, .inl (.inl upd_same), rfl, _, _, rfl, _, rfl, a, _, _, 0, rfl, rfl, ha2, ix2_0, _, _, rfl, rfl, ?_⟩
      have h0 := Int.emod_nonneg x (show (n : Int) ≠ 0 by omega)
      have h1 := Int.emod_lt_of_pos x (show (0 : Int) < (n : Int) by omega)
      obtain ⟨d, hd⟩ := Int.eq_ofNat_of_zero_le h0
      refine ⟨_, rfl, ?_⟩
      rw [hd]
      refine q _ d (by omega) ⟨x / n, y, upd_same, Int.ediv_nonneg hx (by omega), hy, hy2⟩ (Off.at (Off.up (Off.refl a H) nt))
    · -- the mixed number
      refine ⟨_, rfl, a, _, _, .int y, rfl, rfl, .inl (.inl ha), rfl, y, _, rfl, rfl, .inl ⟨by omega, by omega⟩, _, _, rfl, rfl, .inl ⟨_, rfl, _, _, rfl, rfl, (by show (0 : Int) < 2147483563; decide), ?_⟩⟩
      refine ⟨_, rfl, a, _, _, 1, rfl, rfl, ha, ix2_1, ?_⟩
      have hz := Int.emod_nonneg (y * 40014 + 22630) (show (2147483563 : Int) ≠ 0 by decide)
      have hz2 := Int.emod_lt_of_pos (y * 40014 + 22630) (show (0 : Int) < 2147483563 by decide)
      obtain ⟨z, hz0⟩ : ∃ z, (y * 40014 + 22630) % 2147483563 = z := ⟨_, rfl⟩
      have hA : upd H a (.lst ([V.int x, V.int y].set 1 ((fun i j => V.int (i % j)) (y * 40014 + 22630) 2147483563))) a = some (.lst [.int x, .int z]) := by
        rw [upd_same]
        show some (HO.lst [V.int x, V.int ((y * 40014 + 22630) % 2147483563)]) = _
        rw [hz0]
      rw [hz0] at hz hz2
      refine ⟨_, rfl, a, _, _, .int z, rfl, rfl, .inl (.inl hA), rfl, _, rfl, a, _, _, .int z, rfl, rfl, .inl (.inl hA), rfl, z, z, rfl, rfl, .inl ⟨by omega, by omega⟩,
        .inl ⟨_, rfl, _, _, rfl, rfl, (by show (0 : Int) < 2147483543; decide), _, _, rfl, rfl, ⟨by decide, by decide⟩, .inl ⟨_, rfl, _, rfl, _, _, rfl, rfl, (by show (0 : Int) < (n : Int); omega), ?_⟩⟩⟩
      have h0 := Int.emod_nonneg (z * z % 2147483543 / 15) (show (n : Int) ≠ 0 by omega)
      have h1 := Int.emod_lt_of_pos (z * z % 2147483543 / 15) (show (0 : Int) < (n : Int) by omega)
      obtain ⟨d, hd⟩ := Int.eq_ofNat_of_zero_le h0
      show Q (.int (z * z % 2147483543 / 15 % (n : Int))) _
      rw [hd]
      exact q _ d (by omega) ⟨x, z, hA, hx, hz, by omega⟩ (Off.at (Off.refl a H))
def spPick (K : PySem.W.Frag) : Sp := fun vs H Q _ => ∃ (a : Addr) (x : V), vs = [.ref a, x] ∧ Pot H a ∧
  ((∃ l : List Nat, x = tx l ∧ l ≠ [] ∧ l.length ≤ 1000 ∧ ∀ (H' : Hp) (c : Nat), c ∈ l → Pot H' a → Off a H H' → Q (tx [c]) H') ∨
   ∃ (b : Addr) (xs : List V), x = .ref b ∧ b ≠ a ∧ SqL K H b xs ∧ xs ≠ [] ∧ xs.length ≤ 1000 ∧ ∀ (H' : Hp) (v : V), v ∈ xs → Pot H' a → Off a H H' → Q v H')
theorem ok_law_pick (T : All K mg) : FnOk P w K mg base CX0 2 T.f_law_pick T.d_law_pick ["_law_pot_here", "_law_some"] (spPick K) := by
  refine T.law_pick.F.ok sc_law_pick (fun vs H Q E h => ?_) (fun cdv A outer s H vs Q E hr h => ?_)
  · obtain ⟨a, x, rfl, _⟩ := h
    rfl
  · obtain ⟨a, x, rfl, hp, h⟩ := h
    refine ⟨_, pss_one (ps_ret (pe_ix ix_seq (pv 1) (pe_call (ok_law_draw T) hr (by rfl) T.law_draw.g T.law_draw.F.kp T.law_draw.b .nil pass0 (pa_cons (pv 0) (pa_cons (pe_callB call_len (by rfl) T.b_len PySem.boot_len (pa_cons (pv 1) pa_nil)) pa_nil))) (fun _ _ => rfl))), ?_⟩
    rcases h with ⟨l, rfl, hl, hl2, q⟩ | ⟨b, xs, rfl, hba, hS, hl, hl2, q⟩
    · have hpos : 0 < l.length := List.length_pos_iff.mpr hl
      refine ⟨_, rfl, _, rfl, _, rfl, _, l.length, rfl, ⟨by rw [tS_len, sizeLine_eq]; omega, (tS_len l).symm⟩, a, l.length, rfl, hp, hpos, by omega, fun H' d hd hp' ho => ?_⟩
      refine .inr (.inr ⟨_, _, l[d], rfl, rfl, by rw [tS_len, sizeLine_eq]; omega, atI_nat (by simp [hd]), ?_⟩)
      exact q H' l[d] (List.getElem_mem hd) hp' ho
    · have hpos : 0 < xs.length := List.length_pos_iff.mpr hl
      refine ⟨_, rfl, _, rfl, _, rfl, _, xs.length, rfl, .inl ⟨xs, hS, rfl⟩, a, xs.length, rfl, hp, hpos, by omega, fun H' d hd hp' ho => ?_⟩
      refine .inl ⟨b, xs, _, xs[d], rfl, rfl, ho.seq hba hS, atI_nat (List.getElem?_eq_getElem hd), ?_⟩
      exact q H' xs[d] (List.getElem_mem hd) hp' ho
theorem Pot.up {H : Hp} {a p : Addr} {o : HO} (h : Pot H a) (n : a ≠ p) : Pot (upd H p o) a := by
  obtain ⟨x, y, e, r⟩ := h
  exact ⟨x, y, by rw [upd_ne n]; exact e, r⟩
theorem Pot.ne {H : Hp} {a p : Addr} (h : Pot H a) (e : H p = none) : a ≠ p := fun z => h.some (by rw [z]; exact e)
theorem Pot.same {H H' : Hp} {a : Addr} (h : Pot H a) (s : Same H H') : Pot H' a := by
  obtain ⟨x, y, e, r⟩ := h
  exact ⟨x, y, s _ _ e, r⟩
theorem off_del {a : Addr} {H H' : Hp} (x : Off a H H') : Same (del H a) (del H' a) := fun b o e => by
  unfold del at e ⊢
  by_cases h : b = a
  · rw [if_pos h] at e; cases e
  · rw [if_neg h] at e ⊢; exact x b o e h
theorem nV_erase : ∀ (l : List Nat) (k : Nat), (nV l).eraseIdx k = nV (l.eraseIdx k)
  | [], k => by simp [nV]
  | a :: l, 0 => rfl
  | a :: l, k + 1 => congrArg (V.int (a : Int) :: ·) (nV_erase l k)
theorem perm_erase : ∀ {l : List Nat} {k : Nat} (h : k < l.length), (l[k] :: l.eraseIdx k).Perm l
  | a :: l, 0, _ => List.Perm.refl _
  | a :: l, k + 1, h => by
    have hk : k < l.length := by simpa using h
    have ih := perm_erase (l := l) (k := k) hk
    show (l[k] :: a :: l.eraseIdx k).Perm (a :: l)
    exact (List.Perm.swap a _ _).trans (List.Perm.cons a ih)
end
end Lw
namespace Lw
open PySem PySem.Spec PyProof.Rows L3
open L2 hiding del del_same del_ne
theorem off_step {a D : Addr} {H X Y : Hp} (x : Off a H (del X D)) (y : Off a X Y) : Off a H (del Y D) := fun b o e n => by
  have h1 := x b o e n
  have hb : b ≠ D := fun z => by rw [z, del_at] at h1; cases h1
  rw [del_ne hb] at h1 ⊢
  exact y b o h1 n
theorem off_in {a D : Addr} {H X : Hp} (x : Off a H (del X D)) : Off a H X := fun b o e n => del_same _ _ _ _ (x b o e n)
theorem pot_in {a D : Addr} {H : Hp} (h : Pot (del H D) a) : Pot H a := h.same (del_same _ _)
theorem pot_out {a D : Addr} {H : Hp} (h : Pot H a) (n : a ≠ D) : Pot (del H D) a := by
  obtain ⟨x, y, e, r⟩ := h
  exact ⟨x, y, by rw [del_ne n]; exact e, r⟩
theorem off_dd {a D : Addr} {H X : Hp} (x : Off a H X) : Same (del (del H D) a) (del (del X D) a) := fun b o e => by
  have ha : b ≠ a := fun z => by rw [z, del_at] at e; cases e
  rw [del_ne ha] at e ⊢
  have hd : b ≠ D := fun z => by rw [z, del_at] at e; cases e
  rw [del_ne hd] at e ⊢
  exact x b o e ha
theorem nV_take (l : List Nat) (n : Nat) : (nV l).take n = nV (l.take n) := by unfold nV; rw [List.map_take]
theorem nV_snoc (l : List Nat) (n : Nat) : nV (l ++ [n]) = nV l ++ [V.int (n : Int)] := by unfold nV; rw [List.map_append]; rfl
theorem nV_app (l m : List Nat) : nV l ++ nV m = nV (l ++ m) := by unfold nV; rw [List.map_append]
/-- lc_data, where one more place is left out -/
theorem lc_dataX {K : PySem.W.Frag} {J : It} {n : Nat} {G : Hp → Prop} {Y : Nat → Hp → V → Hp → Prop} (w : Walk J n G Y) {g : TG} {te : TE} {vs : List Nat} {σ : L2.St} {H1 : Hp} {D : Addr} {Qd : Hp → Prop} (a : Addr) (ds : List PyData) (hn : ds.length = n) (hz : n ≤ sizeLine)
    (nD : H1 D = none) (hG : ∀ H, Same H1 H → G H)
    (hs : ∀ i x H H' acc d (C : VK), i < n → Same H1 H → H D = some (.lst acc) → Y i H x H' → ds[i]? = some d → (∀ v H4, Same H H4 → Dp K (del (del H4 D) a) v d → C v H4) → g x (wipe σ vs) H' fun σ2 H2 => wipe σ2 vs = wipe σ vs ∧ te σ2 H2 C)
    (hgm : ∀ x σ H (Q Q' : L2.St → Hp → Prop), (∀ σ2 H2, Q σ2 H2 → Q' σ2 H2) → g x σ H Q → g x σ H Q')
    (hd : ∀ H xs, Same H1 H → H D = some (.lst xs) → DpAll K (del (del H D) a) xs ds → Qd H) :
    ∃ W : Nat → Nat → Hp → Prop, (∃ m, W 0 m (upd H1 D (.lst []))) ∧ ∀ i m H, W i m H →
      (J.stop i H ∧ Qd H) ∨ (J.go i H ∧ ∃ Nx : Hp → Prop, (∀ H', Nx H' → ∃ m', m' < m ∧ W (i + 1) m' H') ∧ ∀ x H', J.yld i H x H' → g x (wipe σ vs) H' fun σ2 H2 => wipe σ2 vs = wipe σ vs ∧ tYes σ2 H2 fun b H3 =>
        if b = true then te σ2 H3 fun y H4 => ∃ acc, H4 D = some (.lst acc) ∧ acc.length < sizeLine ∧ Nx (upd H4 D (.lst (acc ++ [y]))) else Nx H3) := by
  refine lc_dp w (fun i acc H => Same H1 H ∧ DpAll K (del H a) acc (ds.take i)) hz (fun i acc H p => ?_) nD ⟨Same.refl _, .nil⟩ (fun i acc H p _ => hG H (p.1.trans (del_same _ _))) (fun i x H H' acc C N hi p hD y c nn => ?_) (fun H xs hD p => ?_)
  · rw [dpAll_len p.2, List.length_take]; omega
  · have hlt : i < ds.length := by omega
    refine hgm _ _ _ _ _ (fun σ2 H2 h => ⟨h.1, yes_te h.2⟩) (hs i x H H' acc ds[i] C hi (p.1.trans (del_same _ _)) hD y (List.getElem?_eq_getElem hlt) fun v H4 s4 d4 => ?_)
    have s5 := del_mono D s4
    refine c v H4 (s4 _ _ hD) ⟨p.1.trans s5, ?_⟩
    rw [List.take_add_one, List.getElem?_eq_getElem hlt]
    exact dpAll_app (DpAll.same (del_mono a s5) p.2) (.cons d4 .nil)
  · have e : ds.take n = ds := by rw [← hn]; exact List.take_length
    rw [e] at p
    exact hd H xs (p.1.trans (del_same _ _)) hD p.2
theorem cutV_n (xs : List V) (m : Nat) : cutV xs none (some (m : Int)) = xs.take m := by
  unfold cutV
  rw [HT.sIx_none, HT.sIx_nat, List.drop_zero, Nat.sub_zero]
  rcases Nat.le_total m xs.length with h | h
  · rw [Nat.min_eq_left h]
  · rw [Nat.min_eq_right h, List.take_length, List.take_of_length_le h]
/-- what is added of a row: what is neither there nor ahead in the row -/
def fresh (f r : List Nat) : Nat → List Nat
  | 0 => []
  | i + 1 => match r[i]? with
    | some g => if g ∈ f ++ r.take i then fresh f r i else fresh f r i ++ [g]
    | none => fresh f r i
theorem fresh_fold (f r : List Nat) : ∀ i, f ++ fresh f r i = (r.take i).foldl M14.addG f
  | 0 => by simp [fresh]
  | i + 1 => by
    have ih := fresh_fold f r i
    unfold fresh
    cases e : r[i]? with
    | none =>
      have hle : r.length ≤ i := List.getElem?_eq_none_iff.mp e
      dsimp only
      rw [List.take_of_length_le (by omega), ih, List.take_of_length_le hle]
    | some g =>
      dsimp only
      rw [List.take_add_one, e, List.foldl_append, ← ih]
      show _ = M14.addG (f ++ fresh f r i) g
      have hm : g ∈ f ++ fresh f r i ↔ g ∈ f ++ r.take i := by
        rw [ih, M14.fold_mem, List.mem_append]
      by_cases h : g ∈ f ++ r.take i
      · rw [if_pos h]
        unfold M14.addG
        rw [if_pos (hm.mpr h)]
      · rw [if_neg h]
        unfold M14.addG
        rw [if_neg (fun z => h (hm.mp z)), List.append_assoc]
theorem fresh_len (f r : List Nat) : ∀ i, (fresh f r i).length ≤ i
  | 0 => Nat.le_refl _
  | i + 1 => by
    have ih := fresh_len f r i
    unfold fresh
    split
    · split
      · omega
      · rw [List.length_append, List.length_singleton]; omega
    · omega
theorem dLR_row {K : PySem.W.Frag} {H : Hp} {v : V} {R : List (List Nat)} (h : Dp K H v (dLR R)) : ∃ va xs, v = .ref va ∧ SqL K H va xs ∧ xs.length = R.length ∧ ∀ p, p < R.length → ∃ b, xs[p]? = some (.ref b) ∧ SqL K H b (nV (M14.row R p)) := by
  obtain ⟨va, xs, rfl, hS, hA⟩ := dp_list h
  have hxl := dpAll_len hA
  rw [List.length_map] at hxl
  refine ⟨va, xs, rfl, hS, hxl, fun p hp => ?_⟩
  have hx : xs[p]? = some (xs[p]'(by omega)) := List.getElem?_eq_getElem (by omega)
  generalize xs[p]'(by omega) = x at hx
  obtain ⟨d, h1, h2⟩ := dpAll_back hA hx
  rw [List.getElem?_map, M14.row_at hp] at h1
  cases h1
  obtain ⟨b, ys, rfl, hS2, hA2⟩ := dp_list h2
  rw [dpAll_nats hA2] at hS2
  exact ⟨b, hx, hS2⟩
section
variable {P : Program} {w : World} {K : PySem.W.Frag} {mg : Str → Option Value} {base : Heap}
def dSh (R : List (List Nat)) (k : List Bool) : PyData := .tuple [dLR R, .list (dB k)]
theorem dp_sheet {H : Hp} {v : V} {R : List (List Nat)} {k : List Bool} (h : Dp K H v (dSh R k)) : ∃ (p : Addr) (a b : V), v = .ref p ∧ SqT K H p [a, b] ∧ Dp K H a (dLR R) ∧ Dp K H b (.list (dB k)) := by
  obtain ⟨p, xs, rfl, hS, hA⟩ := dp_tuple h
  cases hA with
  | cons h1 t => cases t with
    | cons h2 t => cases t; exact ⟨p, _, _, rfl, hS, h1, h2⟩
theorem sq_kinds {H : Hp} {b : V} {k : List Bool} (h : Dp K H b (.list (dB k))) : Sq K H b (k.map V.bl) := by
  obtain ⟨p, xs, rfl, hS, hA⟩ := dp_list h
  rw [dpAll_bools hA] at hS
  exact sq_list hS
def metK (R : List (List Nat)) (k : List Bool) : List Bool := (M14.met R 0).map (M14.kAt k)
def metR (R : List (List Nat)) : List (List Nat) := M14.ren (M14.met R 0) R
theorem sqL_kinds {H : Hp} {b : V} {k : List Bool} (h : Dp K H b (.list (dB k))) : ∃ p, b = .ref p ∧ SqL K H p (k.map V.bl) := by
  obtain ⟨p, xs, rfl, hS, hA⟩ := dp_list h
  have e : xs = k.map V.bl := by
    clear hS h
    induction k generalizing xs with
    | nil => cases hA; rfl
    | cons a k ih =>
      cases hA with
      | cons h1 h2 =>
        cases h1
        rw [ih _ h2]
        rfl
  rw [e] at hS
  exact ⟨p, rfl, hS⟩
def spLMet (K : PySem.W.Frag) : Sp := fun vs H Q _ => ∃ (a : Addr) (o : HO) (v b : V) (R : List (List Nat)) (k : List Bool), vs = [v, b] ∧ H a = some o ∧ Dp K (del H a) v (dLR R) ∧ Dp K (del H a) b (.list (dB k)) ∧ M14.Val R ∧ 0 < R.length ∧ R.length ≤ 40 ∧ (∀ r ∈ R, r.length ≤ 3) ∧ k.length = R.length ∧ ∀ H' t, Same H H' → Dp K (del H' a) t (dSh (metR R) (metK R k)) → Q t H'
theorem ok_law_met (T : All K mg) : FnOk P w K mg base CX0 1 T.f_law_met T.d_law_met ["_law_lines_here", "_law_sorts"] (spLMet K) := by
  refine T.law_met.F.ok sc_law_met (fun vs H Q E h => ?_) (fun cdv A outer s H vs Q E hr h => ?_)
  · obtain ⟨a, o, v, b, R, k, rfl, _⟩ := h
    rfl
  · obtain ⟨a, o, v, b, R, k, rfl, ha0, hv, hb, hval, hne, hfew, hrl, hk, q⟩ := h
    obtain ⟨va, xs, rfl, hS, hxl, hrow⟩ := dLR_row (Dp.same (del_same H a) hv)
    refine ⟨_, pss_cons (ps_set (i := 2) sc_law_met.nd rfl (by first | exact Or.inl rfl | exact Or.inr rfl) (pe_lst (pa_cons pe_int pa_nil)))
      (pss_cons (ps_for PassesOwn.never rfl (pi_range1 rfl T.b_range (pa_cons (pe_callB call_len_seq (by rfl) T.b_len PySem.boot_len (pa_cons (pv 0) pa_nil)) pa_nil)) (pg_name (i := 3) sc_law_met.nd rfl (by first | exact Or.inl rfl | exact Or.inr rfl))
        (pss_one (ps_if (pt_cmpR op_lt (pv 3) (pe_callB call_len_seq (by rfl) T.b_len PySem.boot_len (pa_cons (pv 2) pa_nil)) (nomark _)) (pss_one (ps_expr (pe_bm PySem.F.plainAttrs_list PySem.F.slot_list_extend PySem.F.type_list_extend mt_extend (pv 2) (pa_cons (pe_lc (own := [("_law_at", 4), ("_law_goal", 5)]) rfl sc_law_met.nd (pi_enumS rfl T.b_enumerate (pa_cons (pe_ix ix_list (pv 0) (pe_ix ix_list (pv 2) (pv 3) (fun _ _ => rfl)) (fun _ _ => rfl)) pa_nil))
          (blkOk_by (own := [("_law_at", 4), ("_law_goal", 5)]) (N := ["_law_lines_here", "_law_sorts", "_law_met_here", "_law_turn", "_law_at", "_law_goal", "_law_place"]) (sc := defScope s_law_met) (by decide +kernel))
          (fun _ _ _ _ _ => (pg_tupK (K := K) (n := 2) rfl rfl (pgs_cons (pg_name (i := 4) sc_law_met.nd rfl (Or.inl rfl)) (pgs_cons (pg_name (i := 5) sc_law_met.nd rfl (Or.inl rfl)) pgs_nil)) rfl)) (fun _ _ _ _ _ => (pts_one (pt_cmpR (op_notInNK (K := K) rfl) (pv 5) (pe_op op_cat (pv 2) (pe_slice (sl_listK (K := K) rfl) (pe_ix (ix_listK (K := K) rfl) (pv 0) (pe_ix (ix_listK (K := K) rfl) (pv 2) (pv 3) (fun _ _ => rfl)) (fun _ _ => rfl)) po_none (po_some (pv 4)))) (by rfl))))
          (fun _ _ _ _ _ => (pv 5))) pa_nil)))) pss_nil)))
      (pss_one (ps_ret (pe_tup (pa_cons (pe_lc (own := [("_law_place", 6)]) (g := gName 6) (tt := tYes) rfl sc_law_met.nd (pi_list (pv 2))
          (blkOk_by (own := [("_law_place", 6)]) (N := ["_law_lines_here", "_law_sorts", "_law_met_here", "_law_turn", "_law_at", "_law_goal", "_law_place"]) (sc := defScope s_law_met) (by decide +kernel))
          (fun _ _ _ _ _ => pg_name (i := 6) sc_law_met.nd rfl (by first | exact Or.inl rfl | exact Or.inr rfl)) (fun _ _ _ _ _ => pts_nil)
          (fun _ _ _ _ _ => (pe_lc (own := [("_law_goal", 5)]) (g := gName 5) (tt := tYes) rfl sc_law_met.nd (pi_listK (K := K) rfl (pe_ix (ix_listK (K := K) rfl) (pv 0) (pv 6) (fun _ _ => rfl)))
          (blkOk_by (own := [("_law_goal", 5)]) (N := ["_law_lines_here", "_law_sorts", "_law_met_here", "_law_turn", "_law_at", "_law_goal", "_law_place"]) (by first | kernel_rfl | rfl))
          (fun _ _ _ _ _ => pg_name (i := 5) sc_law_met.nd rfl (by first | exact Or.inl rfl | exact Or.inr rfl)) (fun _ _ _ _ _ => pts_nil)
          (fun _ _ _ _ _ => (pe_bmk (K := K) rfl PySem.F.plainAttrs_list PySem.F.slot_list_index PySem.F.type_list_index (mt_indexNK (K := K) rfl) (pv 2) (pa_cons (pv 5) pa_nil)))))) (pa_cons (pe_lc (own := [("_law_place", 6)]) (g := gName 6) (tt := tYes) rfl sc_law_met.nd (pi_list (pv 2))
          (blkOk_by (own := [("_law_place", 6)]) (N := ["_law_lines_here", "_law_sorts", "_law_met_here", "_law_turn", "_law_at", "_law_goal", "_law_place"]) (sc := defScope s_law_met) (by decide +kernel))
          (fun _ _ _ _ _ => pg_name (i := 6) sc_law_met.nd rfl (by first | exact Or.inl rfl | exact Or.inr rfl)) (fun _ _ _ _ _ => pts_nil)
          (fun _ _ _ _ _ => (pe_ix (ix_listK (K := K) rfl) (pv 1) (pv 6) (fun _ _ => rfl)))) pa_nil)))))), ?_⟩
    refine ⟨by show 1 ≤ sizeLine; decide, fun D nD => ?_⟩
    have h0 : upd H D (.lst [.int 0]) D = some (.lst (nV (M14.metI R 0 0))) := upd_same
    have s0 := same_upd (o := .lst [.int 0]) nD
    generalize upd H D (.lst [.int 0]) = H0 at *
    refine ⟨_, rfl, va, xs, rfl, .inl (sq_same hS s0), _, rfl, by omega, by omega, ?_⟩
    rw [show ((xs.length : Int)).toNat = R.length by omega]
    refine for_it walk_range (fun i σ H' => ∃ t, σ = [some (.ref va), some b, some (.ref D), t, none, none, none] ∧ H' D = some (.lst (nV (M14.metI R 0 i))) ∧ Same H H') ⟨none, rfl, h0, s0⟩ (fun _ _ _ _ _ => trivial) (fun i x' σ H3 H4 hi p y => ?_) (fun σ H3 p => ?_)
    · obtain ⟨p0, rfl, hD, sm⟩ := p
      obtain ⟨rfl, y⟩ := y
      replace y : x' = V.int (i : Int) := y.trans (congrArg V.int (Int.zero_add _))
      subst y
      have hlen := M14.metI_len hval hne i
      refine ⟨_, rfl, _, rfl, D, _, rfl, .inl (.inl (.inl hD)), _, _, rfl, rfl, _, rfl, ?_⟩
      rw [nV_len]
      by_cases hlt : i < (M14.metI R 0 i).length
      · refine ite_t (decide_eq_true (by omega)) ?_
        have hgt : (M14.metI R 0 i)[i]? = some (M14.metI R 0 i)[i] := List.getElem?_eq_getElem hlt
        generalize (M14.metI R 0 i)[i] = p at hgt
        have hp : p < R.length := M14.metI_lt hval hne i p (List.mem_of_getElem? hgt)
        obtain ⟨rb, hx, hSb⟩ := hrow p hp
        have hr3 : (M14.row R p).length ≤ 3 := hrl _ (M14.row_mem hp)
        have hstep := M14.metI_succ hgt
        generalize M14.metI R 0 i = f at *
        have hSx := sq_same hS sm
        have hSy := sq_same hSb sm
        refine ⟨_, rfl, .inl ⟨rfl, _, .inl (.inl hD)⟩, _, rfl, _, rfl, _, rfl, D, _, _, _, rfl, rfl, .inl (.inl hD), atI_nat (nV_get hgt), va, xs, _, _, rfl, rfl, hSx, atI_nat hx, .L rb, _, rfl, hSy, fun D2 nD2 => ?_⟩
        have nDD : D ≠ D2 := ne_of_none hD nD2
        refine lc_gen (walk_enumS (y := .L rb) (xs := nV (M14.row R p))) (Same H4) (fun j acc => acc = nV (fresh f (M14.row R p) j)) (sz (by rw [nV_len]; omega)) (fun j acc e => by rw [e, nV_len]; exact fresh_len _ _ _) rfl (same_upd nD2) (fun _ _ h => same_up h nD2) (fun _ h => sq_same hSy h) (fun j x H5 H6 acc C N hj rs hD2 ha yy cc nn => ?_) (fun H5 ys rs hD2 ha => ?_)
        · obtain ⟨Tp, v1, v2, rfl, nT, rfl, e1, e2⟩ := yy
          cases e1
          have e2 : (nV (M14.row R p))[j]? = some v2 := e2
          obtain ⟨g, hg, rfl⟩ := nV_inv e2
          have nTD : D2 ≠ Tp := ne_of_none hD2 nT
          have rs2 := same_up (o := .tup [.int (j : Nat), .int ((g : Nat) : Int)]) rs (rs.free nT)
          have hD3 : (upd H5 Tp (.tup [.int (j : Nat), .int ((g : Nat) : Int)])) D2 = some (.lst acc) := by rw [upd_ne nTD]; exact hD2
          have hTp := upd_same (H := H5) (a := Tp) (o := .tup [.int (j : Nat), .int ((g : Nat) : Int)])
          generalize upd H5 Tp (.tup [.int (j : Nat), .int ((g : Nat) : Int)]) = H7 at *
          have hfD : SqL K H7 D (nV f) := .inl (.inl (rs2 _ _ hD))
          refine ⟨Tp, _, rfl, .inl (.inl hTp), rfl, _, _, rfl, _, _, rfl, rfl, rfl, ?_⟩
          refine ⟨_, rfl, _, rfl, _, rfl, _, rfl, _, rfl, D, _, _, _, rfl, rfl, hfD, atI_nat (nV_get hgt), va, xs, _, _, rfl, rfl, sq_same hSx rs2, atI_nat hx, _, rfl, _, rfl, rb, _, rfl, sq_same hSy rs2, fun p5 n5 => ?_⟩
          rw [cutV_n, nV_take]
          have s5 := same_upd (o := .lst (nV ((M14.row R p).take j))) n5
          have h5 := upd_same (H := H7) (a := p5) (o := .lst (nV ((M14.row R p).take j)))
          generalize upd H7 p5 (.lst (nV ((M14.row R p).take j))) = H8 at *
          refine ⟨D, p5, _, _, rfl, rfl, s5 _ _ (rs2 _ _ hD), h5, by rw [nV_len, nV_len, List.length_take, sizeLine_eq]; omega, fun p6 n6 => ?_⟩
          rw [nV_app]
          have s6 := same_upd (o := .lst (nV (f ++ (M14.row R p).take j))) n6
          have h6 := upd_same (H := H8) (a := p6) (o := .lst (nV (f ++ (M14.row R p).take j)))
          generalize upd H8 p6 (.lst (nV (f ++ (M14.row R p).take j))) = H9 at *
          refine ⟨_, g, rfl, sq_list (.inl (.inl h6)), _, rfl, ?_⟩
          have s59 := rs2.trans (s5.trans s6)
          have hD9 := s6 _ _ (s5 _ _ hD3)
          have ef : fresh f (M14.row R p) (j + 1) = if g ∈ f ++ (M14.row R p).take j then fresh f (M14.row R p) j else fresh f (M14.row R p) j ++ [g] := by
            show (match (M14.row R p)[j]? with | some g => _ | none => _) = _
            rw [hg]
          by_cases hm : g ∈ f ++ (M14.row R p).take j
          · refine ite_f (by rw [decide_eq_true hm]; rfl) (nn _ s59 hD9 ?_)
            rw [ef, if_pos hm, ha]
          · refine ite_t (by rw [decide_eq_false hm]; rfl) ⟨_, rfl, cc _ _ s59 hD9 ?_⟩
            rw [ef, if_neg hm, ha, nV_snoc]
        · rw [nV_len] at ha
          subst ha
          have hfl := fresh_len f (M14.row R p) (M14.row R p).length
          refine ⟨D, D2, _, _, rfl, rfl, rs _ _ hD, hD2, by rw [nV_len, nV_len, sizeLine_eq]; omega, _, rfl, ?_, same_up (sm.trans rs) nD⟩
          rw [upd_same, nV_app, fresh_fold, List.take_length, hstep]
      · refine ite_f (decide_eq_false (by omega)) ⟨_, rfl, ?_, sm⟩
        have e : (M14.metI R 0 i)[i]? = none := List.getElem?_eq_none_iff.mpr (by omega)
        show H4 D = some (.lst (nV (match (M14.metI R 0 i)[i]? with | some p => _ | none => M14.metI R 0 i)))
        rw [e]
        exact hD
    · obtain ⟨p0, rfl, hD, sm⟩ := p
      have hD : H3 D = some (.lst (nV (M14.met R 0))) := hD
      have hmemlt : ∀ p ∈ M14.met R 0, p < R.length := fun p hp => M14.met_lt hval hne hp
      have hclosed : ∀ p ∈ M14.met R 0, ∀ g ∈ M14.row R p, g ∈ M14.met R 0 := fun p hp g hg => M14.met_closed hval hne hp hg
      have hml : (M14.met R 0).length ≤ 40 := Nat.le_trans (M14.met_len hval hne) hfew
      have ereR : metR R = (M14.met R 0).map fun p => (M14.row R p).map fun g => (M14.met R 0).idxOf g := rfl
      have ereK : metK R k = (M14.met R 0).map (M14.kAt k) := rfl
      rw [ereR, ereK] at q
      generalize M14.met R 0 = od at *
      have hSx := sq_same hS sm
      have hrow3 : ∀ p, p < R.length → ∃ b, xs[p]? = some (.ref b) ∧ SqL K H3 b (nV (M14.row R p)) := fun p hp => by
        obtain ⟨b, h1, h2⟩ := hrow p hp
        exact ⟨b, h1, sq_same h2 sm⟩
      refine ⟨_, rfl, D, rfl, ⟨_, .inl (.inl hD)⟩, fun D4 nD4 => ?_⟩
      have ha3 := sm _ _ ha0
      have naD4 : a ≠ D4 := ne_of_none ha3 nD4
      refine lc_dataX (K := K) (walk_list (xs := nV od)) a (od.map fun p => .list (dN ((M14.row R p).map fun g => od.idxOf g))) (by rw [List.length_map, nV_len]) (sz (by rw [nV_len]; omega)) nD4 (fun H' s' => .inl (.inl (s' _ _ hD))) (fun i y Hh H' acc dd C hi s7 hD4 yy hd c => ?_) gName_mono (fun H8 xs8 s8 hD8 hA8 => ?_)
      · obtain ⟨rfl, hy⟩ := yy
        obtain ⟨p, hp, rfl⟩ := nV_inv hy
        rw [List.getElem?_map, hp] at hd
        cases hd
        have hpm2 := List.mem_of_getElem? hp
        obtain ⟨rb, hx, hSb⟩ := hrow3 p (hmemlt p hpm2)
        have hrl3 : (M14.row R p).length ≤ 3 := hrl _ (M14.row_mem (hmemlt p hpm2))
        refine ⟨rfl, ⟨_, rfl, _, rfl, va, xs, _, _, rfl, rfl, sq_same hSx s7, atI_nat hx, rb, rfl, ⟨_, sq_same hSb s7⟩, fun D5 nD5 => ?_⟩⟩
        refine lc_gen (walk_list (xs := nV (M14.row R p))) (Same H') (fun i acc => acc = nV (((M14.row R p).take i).map fun g => od.idxOf g)) (sz (by rw [nV_len]; omega)) (fun i acc e => by rw [e, nV_len, List.length_map, List.length_take]; omega) rfl (same_upd nD5) (fun _ _ h => same_up h nD5) (fun _ h => sq_same hSb (s7.trans h)) (fun i x H9 H10 acc2 C2 N hi2 r hD9 ha y c2 n2 => ?_) (fun H9 ys r hD9 ha => ?_)
        · obtain ⟨rfl, y⟩ := y
          obtain ⟨g, hg, rfl⟩ := nV_inv y
          have hO3 : SqL K H10 D (nV od) := .inl (.inl (r _ _ (s7 _ _ hD)))
          refine ⟨rfl, yes_te ⟨_, rfl, .inl ⟨rfl, _, hO3⟩, _, rfl, D, od, g, rfl, rfl, hO3, hclosed p hpm2 g (List.mem_of_getElem? hg), ?_⟩⟩
          refine c2 _ _ r hD9 ?_
          rw [ha, List.take_add_one, hg, List.map_append]
          exact (nV_snoc _ _).symm
        · subst ha
          rw [nV_len, List.take_length] at hD9
          refine c _ _ r (.lst (.inl (.inl ?_)) (dpAll_nV _))
          have naD5 : a ≠ D5 := ne_of_none (s7 _ _ ha3) nD5
          rw [del_ne naD5.symm, del_ne (fun e => by rw [e, hD4] at nD5; cases nD5)]
          exact hD9
      · have s38 : Same H3 H8 := s8
        refine ⟨_, rfl, D, rfl, ⟨_, .inl (.inl (s38 _ _ hD))⟩, fun D6 nD6 => ?_⟩
        have ha8 := s38 _ _ ha3
        have naD6 : a ≠ D6 := ne_of_none ha8 nD6
        obtain ⟨kb, rfl, hkb⟩ := sqL_kinds hb
        have hkb8 := sq_same hkb ((del_same H a).trans (sm.trans s38))
        refine lc_gen (walk_list (xs := nV od)) (Same H8) (fun i acc => acc = ((od.take i).map (M14.kAt k)).map V.bl) (sz (by rw [nV_len]; omega)) (fun i acc e => by rw [e, List.length_map, List.length_map, List.length_take]; omega) rfl (same_upd nD6) (fun _ _ h => same_up h nD6) (fun _ h => .inl (.inl (h _ _ (s38 _ _ hD)))) (fun i x H9 H10 acc2 C2 N hi2 r hD9 ha y c2 n2 => ?_) (fun H9 ys r hD9 ha => ?_)
        · obtain ⟨rfl, y⟩ := y
          obtain ⟨g, hg, rfl⟩ := nV_inv y
          have hgl := hmemlt g (List.mem_of_getElem? hg)
          refine ⟨rfl, yes_te ⟨_, rfl, _, rfl, kb, _, _, _, rfl, rfl, sq_same hkb8 r, atI_nat (kAt_get (by omega)), c2 _ _ r hD9 ?_⟩⟩
          rw [ha, List.take_add_one, hg, List.map_append, List.map_append]
          rfl
        · rw [nV_len, List.take_length] at ha
          subst ha
          refine ⟨by show 2 ≤ sizeLine; decide, fun t nt => ?_⟩
          have st := same_upd (o := .tup [.ref D4, .ref D6]) nt
          have s39 := sm.trans (s38.trans r)
          have nat : a ≠ t := ne_of_none (r _ _ ha8) nt
          refine q _ _ (s39.trans st) (.tup (.inl (.inl (by rw [del_ne nat.symm]; exact upd_same))) (.cons ?_ (.cons ?_ .nil)))
          · refine .lst (.inl (.inl (by rw [del_ne naD4.symm]; exact st _ _ (r _ _ hD8)))) ?_
            rw [List.map_map]
            exact DpAll.same (del_mono a ((del_same _ _).trans (r.trans st))) hA8
          · exact .lst (.inl (.inl (by rw [del_ne naD6.symm]; exact st _ _ hD9))) (dp_bools _)
end
end Lw
namespace Lw
open PySem PySem.Spec PyProof.Rows L3
open L2 hiding del del_same del_ne
theorem met_perm {n : Nat} {R : List (List Nat)} {k : List Bool} (h : M14.Good n R k) : (M14.met R 0).Perm (List.range R.length) :=
  (List.perm_ext_iff_of_nodup (M14.met_nodup R 0) List.nodup_range).mpr fun x => ⟨fun hx => List.mem_range.mpr (M14.met_lt h.val h.ne hx), fun hx => h.all x (List.mem_range.mp hx)⟩
theorem rgV_1 (n : Nat) : rgV 1 ((n : Nat) : Int) = nV ((List.range n).drop 1) := by
  unfold rgV nV
  refine List.ext_getElem? fun i => ?_
  rw [List.getElem?_map, List.getElem?_map, List.getElem?_drop]
  by_cases hi : i + 1 < n
  · rw [List.getElem?_range (by omega), List.getElem?_range (by omega)]
    show some (V.int (1 + (i : Int))) = some (V.int ((1 + i : Nat) : Int))
    rw [show ((1 + i : Nat) : Int) = 1 + (i : Int) by omega]
  · rw [List.getElem?_eq_none (by rw [List.length_range]; omega), List.getElem?_eq_none (by rw [List.length_range]; omega)]
    rfl
theorem range_cons {n : Nat} (h : 0 < n) : List.range n = 0 :: (List.range n).drop 1 := by
  cases n with
  | zero => omega
  | succ n => rw [List.range_succ_eq_map]; rfl
section
variable {P : Program} {w : World} {K : PySem.W.Frag} {mg : Str → Option Value} {base : Heap}
def spLMix (K : PySem.W.Frag) : Sp := fun vs H Q _ => ∃ (a : Addr) (v b : V) (n : Nat) (R : List (List Nat)) (k : List Bool), vs = [.ref a, v, b] ∧ Pot H a ∧ Dp K (del H a) v (dLR R) ∧ Dp K (del H a) b (.list (dB k)) ∧ M14.Good n R k ∧ n ≤ 3 ∧ ∀ H' t R' k', M14.Good n R' k' → Pot H' a → Off a H H' → Dp K (del H' a) t (dSh R' k') → Q t H'
theorem ok_law_mixed (T : All K mg) : FnOk P w K mg base CX0 2 T.f_law_mixed T.d_law_mixed ["_law_pot_here", "_law_lines_here", "_law_sorts"] (spLMix K) := by
  refine T.law_mixed.F.ok sc_law_mixed (fun vs H Q E h => ?_) (fun cdv A outer s H vs Q E hr h => ?_)
  · obtain ⟨a, v, b, n, R, k, rfl, _⟩ := h
    rfl
  · obtain ⟨a, v, b, n, R, k, rfl, hp, hv, hb, hG, hn3, q⟩ := h
    obtain ⟨va, xs, rfl, hS, hxl, hrow⟩ := dLR_row hv
    have hfew := hG.few
    have hne := hG.ne
    refine ⟨_, pss_cons (ps_asg (pe_tup (pa_cons (pe_listRg (by rfl) (by rfl) T.b_list (prg_2 (by rfl) T.b_range pe_int (pe_callB call_len_seq (by rfl) T.b_len PySem.boot_len (pa_cons (pv 1) pa_nil)))) (pa_cons (pe_lst (pa_cons pe_int pa_nil)) pa_nil))) (pg_tup rfl (pgs_cons (pg_name (i := 3) sc_law_mixed.nd rfl (by first | exact Or.inl rfl | exact Or.inr rfl)) (pgs_cons (pg_name (i := 4) sc_law_mixed.nd rfl (by first | exact Or.inl rfl | exact Or.inr rfl)) pgs_nil))))
      (pss_cons (ps_for PassesOwn.never rfl (pi_range1 rfl T.b_range (pa_cons (pe_op op_sub (pe_callB call_len_seq (by rfl) T.b_len PySem.boot_len (pa_cons (pv 1) pa_nil)) pe_int) pa_nil)) (pg_name (i := 5) sc_law_mixed.nd rfl (by first | exact Or.inl rfl | exact Or.inr rfl))
        (pss_one (ps_expr (pe_bm PySem.F.plainAttrs_list PySem.F.slot_list_append PySem.F.type_list_append mt_append (pv 4) (pa_cons (pe_bm PySem.F.plainAttrs_list PySem.F.slot_list_pop PySem.F.type_list_pop mt_popAt (pv 3) (pa_cons (pe_call (ok_law_draw T) (hr.mono (by decide)) (by rfl) T.law_draw.g T.law_draw.F.kp T.law_draw.b .nil pass0 (pa_cons (pv 0) (pa_cons (pe_callB call_len_seq (by rfl) T.b_len PySem.boot_len (pa_cons (pv 3) pa_nil)) pa_nil))) pa_nil)) pa_nil)))))
      (pss_one (ps_ret (pe_tup (pa_cons (pe_lc (own := [("_law_place", 7)]) (g := gName 7) (tt := tYes) rfl sc_law_mixed.nd (pi_list (pv 4))
          (blkOk_by (own := [("_law_place", 7)]) (N := ["_law_pot_here", "_law_lines_here", "_law_sorts", "_law_left", "_law_order", "_law_turn", "_law_goal", "_law_place"]) (sc := defScope s_law_mixed) (by decide +kernel))
          (fun _ _ _ _ _ => pg_name (i := 7) sc_law_mixed.nd rfl (by first | exact Or.inl rfl | exact Or.inr rfl)) (fun _ _ _ _ _ => pts_nil)
          (fun _ _ _ _ _ => (pe_lc (own := [("_law_goal", 6)]) (g := gName 6) (tt := tYes) rfl sc_law_mixed.nd (pi_listK (K := K) rfl (pe_ix (ix_listK (K := K) rfl) (pv 1) (pv 7) (fun _ _ => rfl)))
          (blkOk_by (own := [("_law_goal", 6)]) (N := ["_law_pot_here", "_law_lines_here", "_law_sorts", "_law_left", "_law_order", "_law_turn", "_law_goal", "_law_place"]) (by first | kernel_rfl | rfl))
          (fun _ _ _ _ _ => pg_name (i := 6) sc_law_mixed.nd rfl (by first | exact Or.inl rfl | exact Or.inr rfl)) (fun _ _ _ _ _ => pts_nil)
          (fun _ _ _ _ _ => (pe_bmk (K := K) rfl PySem.F.plainAttrs_list PySem.F.slot_list_index PySem.F.type_list_index (mt_indexNK (K := K) rfl) (pv 4) (pa_cons (pv 6) pa_nil)))))) (pa_cons (pe_lc (own := [("_law_place", 7)]) (g := gName 7) (tt := tYes) rfl sc_law_mixed.nd (pi_list (pv 4))
          (blkOk_by (own := [("_law_place", 7)]) (N := ["_law_pot_here", "_law_lines_here", "_law_sorts", "_law_left", "_law_order", "_law_turn", "_law_goal", "_law_place"]) (sc := defScope s_law_mixed) (by decide +kernel))
          (fun _ _ _ _ _ => pg_name (i := 7) sc_law_mixed.nd rfl (by first | exact Or.inl rfl | exact Or.inr rfl)) (fun _ _ _ _ _ => pts_nil)
          (fun _ _ _ _ _ => (pe_ix (ix_listK (K := K) rfl) (pv 2) (pv 7) (fun _ _ => rfl)))) pa_nil)))))), ?_⟩
    have hS1 := sq_same hS (del_same H a)
    refine ⟨_, rfl, va, xs, rfl, .inl hS1, 1, ((R.length : Nat) : Int), rfl, by rw [hxl], ⟨by omega, by omega, by omega, by omega, by omega⟩, fun L nL => ?_⟩
    rw [rgV_1]
    have naL : a ≠ L := hp.ne nL
    have sL := same_upd (o := .lst (nV ((List.range R.length).drop 1))) nL
    have hL1 := upd_same (H := H) (a := L) (o := .lst (nV ((List.range R.length).drop 1)))
    have hp1 := hp.up (o := .lst (nV ((List.range R.length).drop 1))) naL
    generalize upd H L (.lst (nV ((List.range R.length).drop 1))) = H1 at *
    refine ⟨by show 1 ≤ sizeLine; decide, fun F nF => ⟨by show 2 ≤ sizeLine; decide, fun t nt => ?_⟩⟩
    have naF : a ≠ F := hp1.ne nF
    have nLF : L ≠ F := ne_of_none hL1 nF
    have sF := same_upd (o := .lst [.int 0]) nF
    have hF2 := upd_same (H := H1) (a := F) (o := .lst [.int 0])
    have hp2 := hp1.up (o := .lst [.int 0]) naF
    generalize upd H1 F (.lst [.int 0]) = H2 at *
    have nat : a ≠ t := hp2.ne nt
    have sT := same_upd (o := .tup [.ref L, .ref F]) nt
    have hT3 := upd_same (H := H2) (a := t) (o := .tup [.ref L, .ref F])
    have hp3 := hp2.up (o := .tup [.ref L, .ref F]) nat
    generalize upd H2 t (.tup [.ref L, .ref F]) = H3 at *
    have s03 := sL.trans (sF.trans sT)
    refine ⟨t, _, rfl, .inl (.inl hT3), rfl, _, _, rfl, _, _, rfl, rfl, ?_⟩
    have nL0 : H L = none := nL
    have nF0 : H F = none := sL.free nF
    have hrl : ((List.range R.length).drop 1).length = R.length - 1 := by rw [List.length_drop, List.length_range]
    refine ⟨_, rfl, va, xs, rfl, .inl (sq_same hS1 s03), _, _, rfl, rfl, _, rfl, by omega, by omega, ?_⟩
    rw [show ((xs.length : Int) - 1).toNat = R.length - 1 by omega]
    refine for_it walk_range (fun i σ H' => ∃ t, σ = [some (.ref a), some (.ref va), some b, some (.ref L), some (.ref F), t, none, none] ∧ Pot H' a ∧ Off a H H' ∧ ∃ l1 l2, H' L = some (.lst (nV l1)) ∧ H' F = some (.lst (nV (0 :: l2))) ∧ l2.length = i ∧ l1.length + i = R.length - 1 ∧ (l2 ++ l1).Perm ((List.range R.length).drop 1))
      ⟨none, rfl, hp3, Off.of s03, (List.range R.length).drop 1, [], sT _ _ (sF _ _ hL1), sT _ _ hF2, rfl, by omega, List.Perm.refl _⟩ (fun _ _ _ _ _ => trivial) (fun i x σ H4 H5 hi p y => ?_) (fun σ H4 p => ?_)
    · obtain ⟨t0, rfl, hp4, ho4, l1, l2, hL, hF, e1, e2, hpm⟩ := p
      obtain ⟨rfl, rfl⟩ := y
      refine ⟨_, rfl, .inl ⟨rfl, _, .inl (.inl hF)⟩, _, rfl, .inl ⟨rfl, _, .inl (.inl hL)⟩, _, rfl, _, rfl, L, _, rfl, .inl (.inl (.inl hL)), a, l1.length, by rw [nV_len]; rfl, hp4, by omega, by omega, fun H6 d hd hp6 ho6 => ?_⟩
      have hL6 := ho6 _ _ hL naL.symm
      have hF6 := ho6 _ _ hF naF.symm
      refine ⟨L, _, (d : Int), d, _, rfl, rfl, hL6, by omega, by omega, ?_, nV_get (List.getElem?_eq_getElem hd), ?_⟩
      · rw [nV_len]; unfold seqIndex?; simp; omega
      refine ⟨F, _, _, rfl, rfl, by rw [upd_ne nLF.symm]; exact hF6, by rw [nV_len, List.length_cons]; exact Nat.lt_of_lt_of_le (by omega : l2.length + 1 < 1001) (sz (by omega)), ?_⟩
      refine ⟨_, rfl, (hp6.up naL).up naF, ((ho4.trans ho6).up nL0).up nF0, l1.eraseIdx d, l2 ++ [l1[d]], ?_, ?_, ?_, ?_, ?_⟩
      · rw [upd_ne nLF, upd_same, nV_erase]
      · rw [upd_same, ← List.cons_append, nV_snoc]
      · rw [List.length_append, e1]; rfl
      · rw [List.length_eraseIdx_of_lt hd]; omega
      · rw [List.append_assoc]
        exact (List.Perm.append_left l2 (perm_erase hd)).trans hpm
    · obtain ⟨t0, rfl, hp6, o36, l1, l2, hL, hO6, e1, e2, hpm⟩ := p
      have hl0 : l1 = [] := List.eq_nil_of_length_eq_zero (by omega)
      subst hl0
      rw [List.append_nil] at hpm
      have hod : (0 :: l2).Perm (List.range R.length) := by
        rw [range_cons hne]
        exact hpm.cons 0
      have hod0 : (0 :: l2)[0]? = some 0 := rfl
      have hol : (0 :: l2).length ≤ 40 := by rw [hod.length_eq, List.length_range]; exact hfew
      generalize 0 :: l2 = od at hod hod0 hol hO6
      have hkin := hG.kin
      have s06 : Same (del H a) H4 := (off_del o36).trans (del_same _ _)
      have hmemlt : ∀ p ∈ od, p < R.length := fun p hp => List.mem_range.mp (hod.mem_iff.mp hp)
      have hclosed : ∀ p ∈ od, ∀ g ∈ M14.row R p, g ∈ od := fun p hp g hg => hod.mem_iff.mpr (List.mem_range.mpr (hG.val p (hmemlt p hp) g hg))
      have hSx := sq_same hS s06
      obtain ⟨kb, rfl, hkb⟩ := sqL_kinds hb
      refine ⟨_, rfl, F, rfl, ⟨_, .inl (.inl hO6)⟩, fun D4 nD4 => ?_⟩
      have naD4 : a ≠ D4 := hp6.ne nD4
      refine lc_dataX (K := K) (walk_list (xs := nV od)) a (od.map fun p => .list (dN ((M14.row R p).map fun g => od.idxOf g))) (by rw [List.length_map, nV_len]) (sz (by rw [nV_len]; omega)) nD4 (fun H' s' => .inl (.inl (s' _ _ hO6))) (fun i y Hh H' acc dd C hi sm hD yy hd c => ?_) gName_mono (fun H8 xs8 s8 hD8 hA8 => ?_)
      · obtain ⟨rfl, hy⟩ := yy
        obtain ⟨p, hp, rfl⟩ := nV_inv hy
        rw [List.getElem?_map, hp] at hd
        cases hd
        have hpm2 := List.mem_of_getElem? hp
        obtain ⟨rb, hx, hSb⟩ := hrow p (hmemlt p hpm2)
        have s7h : Same (del H a) H' := s06.trans sm
        have hrl : (M14.row R p).length ≤ 3 := by have h1 := hG.len _ (M14.row_mem (hmemlt p hpm2)); omega
        refine ⟨rfl, ⟨_, rfl, _, rfl, va, xs, _, _, rfl, rfl, sq_same hS s7h, atI_nat hx, rb, rfl, ⟨_, sq_same hSb s7h⟩, fun D5 nD5 => ?_⟩⟩
        refine lc_gen (walk_list (xs := nV (M14.row R p))) (Same H') (fun i acc => acc = nV (((M14.row R p).take i).map fun g => od.idxOf g)) (sz (by rw [nV_len]; omega)) (fun i acc e => by rw [e, nV_len, List.length_map, List.length_take]; omega) rfl (same_upd nD5) (fun _ _ h => same_up h nD5) (fun _ h => sq_same hSb (s7h.trans h)) (fun i x H9 H10 acc2 C2 N hi2 r hD9 ha y c2 n2 => ?_) (fun H9 ys r hD9 ha => ?_)
        · obtain ⟨rfl, y⟩ := y
          obtain ⟨g, hg, rfl⟩ := nV_inv y
          have hO3 : SqL K H10 F (nV od) := .inl (.inl (r _ _ (sm _ _ hO6)))
          refine ⟨rfl, yes_te ⟨_, rfl, .inl ⟨rfl, _, hO3⟩, _, rfl, F, od, g, rfl, rfl, hO3, hclosed p hpm2 g (List.mem_of_getElem? hg), ?_⟩⟩
          refine c2 _ _ r hD9 ?_
          rw [ha, List.take_add_one, hg, List.map_append]
          exact (nV_snoc _ _).symm
        · subst ha
          rw [nV_len, List.take_length] at hD9
          refine c _ _ r (.lst (.inl (.inl ?_)) (dpAll_nV _))
          have naD5 : D5 ≠ a := fun e => by
            have := (hp6.same sm).ne nD5
            exact this e.symm
          rw [del_ne naD5, del_ne (fun e => by rw [e, hD] at nD5; cases nD5)]
          exact hD9
      · have s08 := s06.trans s8
        have hO8 := s8 _ _ hO6
        have hp8 := hp6.same s8
        refine ⟨_, rfl, F, rfl, ⟨_, .inl (.inl hO8)⟩, fun D6 nD6 => ?_⟩
        have naD6 : a ≠ D6 := hp8.ne nD6
        refine lc_gen (walk_list (xs := nV od)) (Same H8) (fun i acc => acc = (((od.take i).map (M14.kAt k)).map V.bl)) (sz (by rw [nV_len]; omega)) (fun i acc e => by rw [e, List.length_map, List.length_map, List.length_take]; omega) rfl (same_upd nD6) (fun _ _ h => same_up h nD6) (fun _ h => .inl (.inl (h _ _ hO8))) (fun i x H9 H10 acc C N hi r hD9 ha y c n => ?_) (fun H9 ys r hD9 ha => ?_)
        · obtain ⟨rfl, y⟩ := y
          obtain ⟨p, hp, rfl⟩ := nV_inv y
          have hpl := hmemlt p (List.mem_of_getElem? hp)
          refine ⟨rfl, yes_te ⟨_, rfl, _, rfl, kb, _, _, _, rfl, rfl, sq_same hkb (s08.trans r), atI_nat (kAt_get (by omega)), ?_⟩⟩
          refine c _ _ r hD9 ?_
          rw [ha, List.take_add_one, hp]
          simp
        · subst ha
          rw [nV_len, List.take_length] at hD9
          refine ⟨by show 2 ≤ sizeLine; decide, fun t nt => ?_⟩
          have hp9 := hp8.same r
          have nat : a ≠ t := hp9.ne nt
          have st := same_upd (o := .tup [.ref D4, .ref D6]) nt
          have eL : dLR (M14.ren od R) = .list (od.map fun p => .list (dN ((M14.row R p).map fun g => od.idxOf g))) := by
            unfold dLR M14.ren
            rw [List.map_map]
            rfl
          have hDp : Dp K (del H8 a) (.ref D4) (dLR (M14.ren od R)) := by
            rw [eL]
            exact .lst (.inl (.inl (by rw [del_ne naD4.symm]; exact hD8))) (DpAll.same (del_mono a (del_same _ _)) hA8)
          have hDk : Dp K (del H9 a) (.ref D6) (.list (dB (od.map (M14.kAt k)))) := .lst (.inl (.inl (by rw [del_ne naD6.symm]; exact hD9))) (dp_bools _)
          refine q _ _ (M14.ren od R) (od.map (M14.kAt k)) (M14.good_ren hG.val hfew (fun r hr => hG.len r hr) hne (hod.trans (met_perm hG).symm) hod0 (by rw [List.length_map])) (hp9.same st) (o36.trans (Off.of (s8.trans (r.trans st)))) ?_
          exact .tup (.inl (.inl (by rw [del_ne nat.symm]; exact upd_same))) (.cons (Dp.same (del_mono a (r.trans st)) hDp) (.cons (Dp.same (del_mono a st) hDk) .nil))
end
end Lw
namespace Lw
open PySem PySem.Spec PyProof.Rows L3
open L2 hiding del del_same del_ne
/-- drawn rows -/
structure Drawn (n m : Nat) (R : List (List Nat)) : Prop where
  ne : 0 < R.length
  few : R.length ≤ m
  len : ∀ r ∈ R, r.length = n
  val : M14.Val R
/-- a comprehension of rows: what is there so far -/
def RowsP (K : PySem.W.Frag) (a : Addr) (n mm : Nat) (H1 : Hp) (i : Nat) (acc : List V) (H : Hp) : Prop := Pot H a ∧ Off a H1 H ∧ ∃ R : List (List Nat), R.length = i ∧ (∀ r ∈ R, r.length = n ∧ ∀ g ∈ r, g < mm) ∧ DpAll K (del H a) acc (R.map fun r => .list (dN r))
def RowP (a : Addr) (mm : Nat) (H1 : Hp) (j : Nat) (acc : List V) (H : Hp) : Prop := Pot H a ∧ Off a H1 H ∧ ∃ l : List Nat, acc = nV l ∧ l.length = j ∧ ∀ g ∈ l, g < mm
theorem RowsP.len {K : PySem.W.Frag} {a : Addr} {n mm : Nat} {H1 : Hp} {i : Nat} {acc : List V} {H : Hp} (p : RowsP K a n mm H1 i acc H) : acc.length ≤ i := by
  obtain ⟨_, _, R, e, _, h⟩ := p
  rw [dpAll_len h, List.length_map]; omega
theorem RowP.len {a : Addr} {mm : Nat} {H1 : Hp} {i : Nat} {acc : List V} {H : Hp} (p : RowP a mm H1 i acc H) : acc.length ≤ i := by
  obtain ⟨_, _, l, e, h, _⟩ := p
  rw [e, nV_len]; omega
theorem RowP.nil {a : Addr} {mm : Nat} {H : Hp} (h : Pot H a) : RowP a mm H 0 [] H := ⟨h, Off.refl _ _, [], rfl, rfl, fun g hg => nomatch hg⟩
theorem RowsP.nil {K : PySem.W.Frag} {a : Addr} {n mm : Nat} {H : Hp} (h : Pot H a) : RowsP K a n mm H 0 [] H := ⟨h, Off.refl _ _, [], rfl, (fun r hr => nomatch hr), .nil⟩
/-- one number more -/
theorem RowP.push {a D : Addr} {mm g j : Nat} {H1 H H4 : Hp} {acc : List V} (p : RowP a mm H1 j acc (del H D)) (hp : Pot H4 a) (ho : Off a H H4) (n : a ≠ D) (hg : g < mm) : RowP a mm H1 (j + 1) (acc ++ [.int (g : Int)]) (del H4 D) := by
  obtain ⟨h1, h2, l, e, h3, h4⟩ := p
  refine ⟨pot_out hp n, off_step h2 ho, l ++ [g], by rw [e, nV_snoc], by rw [List.length_append, h3]; rfl, fun z hz => ?_⟩
  rcases List.mem_append.mp hz with hz | hz
  · exact h4 z hz
  · rw [List.mem_singleton.mp hz]; exact hg
/-- one row more -/
theorem RowsP.push {K : PySem.W.Frag} {a D D2 : Addr} {n mm i : Nat} {H1 H Hz : Hp} {acc ys : List V} (p : RowsP K a n mm H1 i acc (del H D)) (hD : H D = some (.lst acc)) (z : RowP a mm H n ys (del Hz D2)) (nD : a ≠ D) (nD2 : a ≠ D2) (nDD : D ≠ D2) (hz : Hz D2 = some (.lst ys)) : RowsP K a n mm H1 (i + 1) (acc ++ [.ref D2]) (del Hz D) := by
  obtain ⟨hpp, hoo, R, eR, hRR, hAA⟩ := p
  obtain ⟨hpz, hoz, l, el, hll, hlt⟩ := z
  subst el
  have hoz2 := off_in hoz
  refine ⟨pot_out (pot_in hpz) nD, off_step hoo hoz2, R ++ [l], by rw [List.length_append, eR]; rfl, fun r hr => ?_, ?_⟩
  · rcases List.mem_append.mp hr with hr | hr
    · exact hRR r hr
    · rw [List.mem_singleton.mp hr]; exact ⟨hll, hlt⟩
  · rw [List.map_append]
    refine dpAll_app (DpAll.same (off_dd hoz2) hAA) (.cons (.lst (.inl (.inl ?_)) (dpAll_nV l)) .nil)
    rw [del_ne nD2.symm, del_ne nDD.symm]
    exact hz
/-- all rows -/
theorem RowsP.done {K : PySem.W.Frag} {a D : Addr} {n mm m : Nat} {H1 H2 : Hp} {xs : List V} (p : RowsP K a n mm H1 mm xs (del H2 D)) (hD : H2 D = some (.lst xs)) (nD : a ≠ D) (h0 : 0 < mm) (hm : mm ≤ m) : ∃ R, Drawn n m R ∧ R.length = mm ∧ Pot H2 a ∧ Off a H1 H2 ∧ Dp K (del H2 a) (.ref D) (dLR R) := by
  obtain ⟨hp2, ho2, R, eR, hRR, hAA⟩ := p
  refine ⟨R, ⟨by omega, by omega, fun r hr => (hRR r hr).1, fun p hp g hg => ?_⟩, eR, pot_in hp2, off_in ho2, .lst (.inl (.inl (by rw [del_ne nD.symm]; exact hD))) (DpAll.same (del_mono a (del_same H2 D)) hAA)⟩
  have := (hRR _ (M14.row_mem hp)).2 g hg
  omega
theorem test_to {tc : TT} {t u : TS} {D : Ends} {σ : L2.St} {H : Hp} (R : Hp → Prop) (hc : ∀ Q : Bool → Hp → Prop, (∀ b H1, R H1 → Q b H1) → tc σ H Q) (k1 : ∀ H1, R H1 → t D σ H1) (k2 : ∀ H1, R H1 → u D σ H1) : tIfS tc t u D σ H :=
  hc _ fun b H1 r => by cases b; exact k2 H1 r; exact k1 H1 r
/-- rows that grow: list as of addresses, what each holds -/
structure Grow (a D : Addr) (as : List Addr) (n mm i : Nat) (f : Nat → List Nat) (H : Hp) : Prop where
  lst : H D = some (.lst (as.map V.ref))
  pot : Pot H a
  at_ : ∀ (j : Nat) (b : Addr), as[j]? = some b → H b = some (.lst (nV (f j)))
  old : ∀ j, j < i → (f j).length = n ∧ ∀ g ∈ f j, g < mm
  new : ∀ j, i ≤ j → f j = [min (j + 1) (mm - 1)]
section
variable {P : Program} {w : World} {K : PySem.W.Frag} {mg : Str → Option Value} {base : Heap}
def spLines (K : PySem.W.Frag) : Sp := fun vs H Q _ => ∃ (a : Addr) (n m : Nat), vs = [.ref a, .int (n : Int), .int (m : Int)] ∧ Pot H a ∧ 0 < n ∧ n ≤ 3 ∧ 0 < m ∧ m ≤ 40 ∧ ∀ H' v R, Drawn n m R → Pot H' a → Off a H H' → Dp K (del H' a) v (dLR R) → Q v H'
theorem ok_law_lines (T : All K mg) : FnOk P w K mg base CX0 2 T.f_law_lines T.d_law_lines ["_law_pot_here", "_law_size", "_law_most"] (spLines K) := by
  refine T.law_lines.F.ok sc_law_lines (fun vs H Q E h => ?_) (fun cdv A outer s H vs Q E hr h => ?_)
  · obtain ⟨a, n, m, rfl, _⟩ := h
    rfl
  · obtain ⟨a, n, m, rfl, hp, hn, hn3, hm, hm40, q⟩ := h
    refine ⟨_, pss_cons (ps_asg (pe_tup (pa_cons (pe_op op_add pe_int (pe_call (ok_law_draw T) (hr.mono (by decide)) (by rfl) T.law_draw.g T.law_draw.F.kp T.law_draw.b .nil pass0 (pa_cons (pv 0) (pa_cons (pv 2) pa_nil)))) (pa_cons (pe_call (ok_law_draw T) (hr.mono (by decide)) (by rfl) T.law_draw.g T.law_draw.F.kp T.law_draw.b .nil pass0 (pa_cons (pv 0) (pa_cons pe_int pa_nil))) pa_nil))) (pg_tup rfl (pgs_cons (pg_name (i := 3) sc_law_lines.nd rfl (by first | exact Or.inl rfl | exact Or.inr rfl)) (pgs_cons (pg_name (i := 4) sc_law_lines.nd rfl (by first | exact Or.inl rfl | exact Or.inr rfl)) pgs_nil))))
      (pss_cons (ps_if (pt_cmpR op_eq (pv 4) pe_int (nomark _)) (pss_one (ps_ret (pe_lc (own := [("_law_place", 6)]) (g := gName 6) (tt := tYes) rfl sc_law_lines.nd (pi_range1 rfl T.b_range (pa_cons (pv 3) pa_nil))
          (blkOk_by (own := [("_law_place", 6)]) (N := ["_law_pot_here", "_law_size", "_law_most", "_law_many", "_law_way", "_law_letter", "_law_place", "_law_steps"]) (sc := defScope s_law_lines) (by decide +kernel))
          (fun _ _ _ _ _ => pg_name (i := 6) sc_law_lines.nd rfl (by first | exact Or.inl rfl | exact Or.inr rfl)) (fun _ _ _ _ _ => pts_nil)
          (fun _ _ _ _ _ => (pe_lc (own := [("_law_letter", 5)]) (g := gName 5) (tt := tYes) rfl sc_law_lines.nd (pi_range1 rfl T.b_range (pa_cons (pv 1) pa_nil))
          (blkOk_by (own := [("_law_letter", 5)]) (N := ["_law_pot_here", "_law_size", "_law_most", "_law_many", "_law_way", "_law_letter", "_law_place", "_law_steps"]) (by first | kernel_rfl | rfl))
          (fun _ _ _ _ _ => pg_name (i := 5) sc_law_lines.nd rfl (by first | exact Or.inl rfl | exact Or.inr rfl)) (fun _ _ _ _ _ => pts_nil)
          (fun _ _ _ _ _ => (pe_call (ok_law_draw T) (hr.mono (by decide)) (by rfl) T.law_draw.g T.law_draw.F.kp T.law_draw.b .nil pass0 (pa_cons (pv 0) (pa_cons (pv 3) pa_nil))))))))) pss_nil)
      (pss_cons (ps_if (pt_cmpR op_eq (pv 4) pe_int (nomark _)) (pss_one (ps_ret (pe_lc (own := [("_law_place", 6)]) (g := gName 6) (tt := tYes) rfl sc_law_lines.nd (pi_range1 rfl T.b_range (pa_cons (pv 3) pa_nil))
          (blkOk_by (own := [("_law_place", 6)]) (N := ["_law_pot_here", "_law_size", "_law_most", "_law_many", "_law_way", "_law_letter", "_law_place", "_law_steps"]) (sc := defScope s_law_lines) (by decide +kernel))
          (fun _ _ _ _ _ => pg_name (i := 6) sc_law_lines.nd rfl (by first | exact Or.inl rfl | exact Or.inr rfl)) (fun _ _ _ _ _ => pts_nil)
          (fun _ _ _ _ _ => (pe_lc (own := [("_law_letter", 5)]) (g := gName 5) (tt := tYes) rfl sc_law_lines.nd (pi_range1 rfl T.b_range (pa_cons (pv 1) pa_nil))
          (blkOk_by (own := [("_law_letter", 5)]) (N := ["_law_pot_here", "_law_size", "_law_most", "_law_many", "_law_way", "_law_letter", "_law_place", "_law_steps"]) (by first | kernel_rfl | rfl))
          (fun _ _ _ _ _ => pg_name (i := 5) sc_law_lines.nd rfl (by first | exact Or.inl rfl | exact Or.inr rfl)) (fun _ _ _ _ _ => pts_nil)
          (fun _ _ _ _ _ => (pe_op op_add (pv 6) (pe_call (ok_law_draw T) (hr.mono (by decide)) (by rfl) T.law_draw.g T.law_draw.F.kp T.law_draw.b .nil pass0 (pa_cons (pv 0) (pa_cons (pe_op op_sub (pv 3) (pv 6)) pa_nil)))))))))) pss_nil)
      (pss_cons (ps_set (i := 7) sc_law_lines.nd rfl (by first | exact Or.inl rfl | exact Or.inr rfl) (pe_op op_cat (pe_lc (own := [("_law_place", 6)]) (g := gName 6) (tt := tYes) rfl sc_law_lines.nd (pi_range1 rfl T.b_range (pa_cons (pe_op op_sub (pv 3) pe_int) pa_nil))
          (blkOk_by (own := [("_law_place", 6)]) (N := ["_law_pot_here", "_law_size", "_law_most", "_law_many", "_law_way", "_law_letter", "_law_place", "_law_steps"]) (sc := defScope s_law_lines) (by decide +kernel))
          (fun _ _ _ _ _ => pg_name (i := 6) sc_law_lines.nd rfl (by first | exact Or.inl rfl | exact Or.inr rfl)) (fun _ _ _ _ _ => pts_nil)
          (fun _ _ _ _ _ => (pe_call (ok_law_draw T) (hr.mono (by decide)) (by rfl) T.law_draw.g T.law_draw.F.kp T.law_draw.b .nil pass0 (pa_cons (pv 0) (pa_cons (pv 1) pa_nil))))) (pe_lst (pa_cons (pv 1) pa_nil))))
      (pss_one (ps_ret (pe_lc (own := [("_law_place", 6)]) (g := gName 6) (tt := tYes) rfl sc_law_lines.nd (pi_range1 rfl T.b_range (pa_cons (pv 3) pa_nil))
          (blkOk_by (own := [("_law_place", 6)]) (N := ["_law_pot_here", "_law_size", "_law_most", "_law_many", "_law_way", "_law_letter", "_law_place", "_law_steps"]) (sc := defScope s_law_lines) (by decide +kernel))
          (fun _ _ _ _ _ => pg_name (i := 6) sc_law_lines.nd rfl (by first | exact Or.inl rfl | exact Or.inr rfl)) (fun _ _ _ _ _ => pts_nil)
          (fun _ _ _ _ _ => (pe_lc (own := [("_law_letter", 5)]) (g := gName 5) (tt := tYes) rfl sc_law_lines.nd (pi_range1 rfl T.b_range (pa_cons (pv 1) pa_nil))
          (blkOk_by (own := [("_law_letter", 5)]) (N := ["_law_pot_here", "_law_size", "_law_most", "_law_many", "_law_way", "_law_letter", "_law_place", "_law_steps"]) (by first | kernel_rfl | rfl))
          (fun _ _ _ _ _ => pg_name (i := 5) sc_law_lines.nd rfl (by first | exact Or.inl rfl | exact Or.inr rfl)) (fun _ _ _ _ _ => pts_nil)
          (fun _ _ _ _ _ => (pe_op op_add (pv 6) (pe_callTy call_int1 (by rfl) T.b_int PyProof.Rows.boot_int (pa_cons (pe_cmpR op_eq (pv 5) (pe_ix (ix_listK (K := K) rfl) (pv 7) (pv 6) (fun _ _ => rfl)) (by rfl)) pa_nil)))))))))))), ?_⟩
    refine ⟨_, rfl, _, rfl, a, m, rfl, hp, hm, by omega, fun H1 d hd hp1 ho1 => ⟨_, _, rfl, rfl, _, rfl, a, 3, rfl, hp1, by decide, by decide, fun H2 wy hw hp2 ho2 => ⟨by show 2 ≤ sizeLine; decide, fun t nt => ?_⟩⟩⟩
    have em : (1 : Int) + (d : Int) = ((d + 1 : Nat) : Int) := by omega
    dsimp only
    rw [em]
    have hmm : d + 1 ≤ m := hd
    have hmm0 : 0 < d + 1 := Nat.succ_pos _
    generalize d + 1 = mm at hmm hmm0
    have sT := same_upd (o := .tup [.int (mm : Int), .int (wy : Int)]) nt
    have hT := upd_same (H := H2) (a := t) (o := .tup [.int (mm : Int), .int (wy : Int)])
    have hp3 := hp2.same sT
    have ho3 := (ho1.trans ho2).trans (Off.of (a := a) sT)
    generalize upd H2 t (.tup [.int (mm : Int), .int (wy : Int)]) = H3 at *
    refine ⟨t, _, rfl, .inl (.inl hT), rfl, _, _, rfl, _, _, rfl, rfl, ?_⟩
    refine ⟨_, rfl, rfl, _, rfl, ?_⟩
    obtain rfl | rfl | rfl : wy = 0 ∨ wy = 1 ∨ wy = 2 := by omega
    · refine ite_t rfl ?_
      refine ⟨_, rfl, _, rfl, by omega, by omega, fun D nD => ?_⟩
      rw [show ((mm : Int)).toNat = mm by omega]
      have naD : a ≠ D := hp3.ne nD
      refine lc_dp walk_range (RowsP K a n mm H3) (sz (by omega)) (fun i acc H' p => p.len) nD (RowsP.nil hp3) (fun _ _ _ _ _ => trivial) (fun i x Hh H' acc C N hi p hD y c nn => ?_) (fun H4 xs4 hD4 p => ?_)
      · obtain ⟨rfl, rfl⟩ := y
        have hpH := pot_in p.1
        refine ⟨rfl, yes_te ⟨_, rfl, _, rfl, by omega, by omega, fun D2 nD2 => ?_⟩⟩
        rw [show ((n : Int)).toNat = n by omega]
        have naD2 : a ≠ D2 := hpH.ne nD2
        have nDD2 : D ≠ D2 := ne_of_none hD nD2
        refine lc_dp walk_range (RowP a mm H') (sz (by omega)) (fun i acc H' p => p.len) nD2 (RowP.nil hpH) (fun _ _ _ _ _ => trivial) (fun j x2 Hk H'' acc2 C2 N2 hj p2 hD2 y2 c2 nn2 => ?_) (fun Hz ys hDz p2 => ?_)
        · obtain ⟨rfl, rfl⟩ := y2
          refine ⟨rfl, yes_te ⟨_, rfl, _, rfl, a, mm, rfl, pot_in p2.1, hmm0, by omega, fun H5 g hg hp5 ho5 => ?_⟩⟩
          exact c2 _ _ (ho5 _ _ hD2 naD2.symm) (p2.push hp5 ho5 naD2 hg)
        · exact c _ _ (off_in p2.2.1 _ _ hD naD.symm) (p.push hD p2 naD naD2 nDD2 hDz)
      · obtain ⟨R, hR, _, hp4, ho4, hdp⟩ := p.done hD4 naD hmm0 hmm
        exact q _ _ R hR hp4 (ho3.trans ho4) hdp
    · refine ite_f rfl ⟨_, rfl, rfl, _, rfl, ite_t rfl ?_⟩
      refine ⟨_, rfl, _, rfl, by omega, by omega, fun D nD => ?_⟩
      rw [show ((mm : Int)).toNat = mm by omega]
      have naD : a ≠ D := hp3.ne nD
      refine lc_dp walk_range (RowsP K a n mm H3) (sz (by omega)) (fun i acc H' p => p.len) nD (RowsP.nil hp3) (fun _ _ _ _ _ => trivial) (fun i x Hh H' acc C N hi p hD y c nn => ?_) (fun H4 xs4 hD4 p => ?_)
      · obtain ⟨rfl, y⟩ := y
        replace y : x = V.int (i : Int) := y.trans (congrArg V.int (Int.zero_add _))
        subst y
        have hpH := pot_in p.1
        refine ⟨rfl, yes_te ⟨_, rfl, _, rfl, by omega, by omega, fun D2 nD2 => ?_⟩⟩
        rw [show ((n : Int)).toNat = n by omega]
        have naD2 : a ≠ D2 := hpH.ne nD2
        have nDD2 : D ≠ D2 := ne_of_none hD nD2
        refine lc_dp walk_range (RowP a mm H') (sz (by omega)) (fun i acc H' p => p.len) nD2 (RowP.nil hpH) (fun _ _ _ _ _ => trivial) (fun j x2 Hk H'' acc2 C2 N2 hj p2 hD2 y2 c2 nn2 => ?_) (fun Hz ys hDz p2 => ?_)
        · obtain ⟨rfl, rfl⟩ := y2
          refine ⟨rfl, yes_te ⟨_, rfl, _, rfl, _, rfl, _, rfl, _, _, rfl, rfl, a, mm - i, by show [V.ref a, V.int ((mm : Int) - (i : Int))] = _; rw [show (mm : Int) - (i : Int) = ((mm - i : Nat) : Int) by omega], pot_in p2.1, by omega, by omega, fun H5 g hg hp5 ho5 => ⟨_, _, rfl, rfl, ?_⟩⟩⟩
          dsimp only
          rw [show (i : Int) + (g : Int) = ((i + g : Nat) : Int) by omega]
          exact c2 _ _ (ho5 _ _ hD2 naD2.symm) (p2.push hp5 ho5 naD2 (by omega))
        · exact c _ _ (off_in p2.2.1 _ _ hD naD.symm) (p.push hD p2 naD naD2 nDD2 hDz)
      · obtain ⟨R, hR, _, hp4, ho4, hdp⟩ := p.done hD4 naD hmm0 hmm
        exact q _ _ R hR hp4 (ho3.trans ho4) hdp
    · refine ite_f rfl ⟨_, rfl, rfl, _, rfl, ite_f rfl ?_⟩
      refine ⟨_, rfl, _, _, rfl, rfl, _, rfl, by omega, by omega, fun D nD => ?_⟩
      rw [show ((mm : Int) - 1).toNat = mm - 1 by omega]
      have naD : a ≠ D := hp3.ne nD
      refine lc_dp walk_range (RowP a n H3) (sz (by omega)) (fun i acc H' p => p.len) nD (RowP.nil hp3) (fun _ _ _ _ _ => trivial) (fun j x2 Hk H'' acc2 C2 N2 hj p2 hD2 y2 c2 nn2 => ?_) (fun Hz ys hDz p2 => ?_)
      · obtain ⟨rfl, rfl⟩ := y2
        refine ⟨rfl, yes_te ⟨_, rfl, _, rfl, a, n, rfl, pot_in p2.1, hn, by omega, fun H5 g hg hp5 ho5 => ?_⟩⟩
        exact c2 _ _ (ho5 _ _ hD2 naD.symm) (p2.push hp5 ho5 naD hg)
      obtain ⟨hpz, hoz, st, rfl, hstl, hst⟩ := p2
      refine ⟨_, rfl, by show 1 ≤ sizeLine; decide, fun p5 n5 => ?_⟩
      have hpz := pot_in hpz
      have hoz := off_in hoz
      have nap5 : a ≠ p5 := hpz.ne n5
      have s5 := same_upd (o := .lst [.int (n : Int)]) n5
      have h5 := upd_same (H := Hz) (a := p5) (o := .lst [.int (n : Int)])
      have hp5 := hpz.same s5
      generalize upd Hz p5 (.lst [.int (n : Int)]) = H5 at *
      refine ⟨D, p5, _, _, rfl, rfl, s5 _ _ hDz, h5, by rw [nV_len, sizeLine_eq]; show st.length + 1 ≤ _; omega, fun S nS => ?_⟩
      have naS : a ≠ S := hp5.ne nS
      have eS : nV st ++ [.int (n : Int)] = nV (st ++ [n]) := (nV_snoc _ _).symm
      rw [eS]
      have s6 := same_upd (o := .lst (nV (st ++ [n]))) nS
      have h6 := upd_same (H := H5) (a := S) (o := .lst (nV (st ++ [n])))
      have hp6 := hp5.same s6
      generalize upd H5 S (.lst (nV (st ++ [n]))) = H6 at *
      have ho6 := ho3.trans (hoz.trans (Off.of (a := a) (s5.trans s6)))
      refine ⟨_, rfl, _, rfl, by omega, by omega, fun D nD => ?_⟩
      rw [show ((mm : Int)).toNat = mm by omega]
      have naD : a ≠ D := hp6.ne nD
      refine lc_dp walk_range (RowsP K a n mm H6) (sz (by omega)) (fun i acc H' p => p.len) nD (RowsP.nil hp6) (fun _ _ _ _ _ => trivial) (fun i x Hh H' acc C N hi p hD y c nn => ?_) (fun H4 xs4 hD4 p => ?_)
      · obtain ⟨rfl, y⟩ := y
        replace y : x = V.int (i : Int) := y.trans (congrArg V.int (Int.zero_add _))
        subst y
        have hpH := pot_in p.1
        have hSH := off_in p.2.1 _ _ h6 naS.symm
        refine ⟨rfl, yes_te ⟨_, rfl, _, rfl, by omega, by omega, fun D2 nD2 => ?_⟩⟩
        rw [show ((n : Int)).toNat = n by omega]
        have naD2 : a ≠ D2 := hpH.ne nD2
        have nDD2 : D ≠ D2 := ne_of_none hD nD2
        refine lc_dp walk_range (RowP a mm H') (sz (by omega)) (fun i acc H' p => p.len) nD2 (RowP.nil hpH) (fun _ _ _ _ _ => trivial) (fun j x2 Hk H'' acc2 C2 N2 hj p2 hD2 y2 c2 nn2 => ?_) (fun Hz ys hDz p2 => ?_)
        · obtain ⟨rfl, y2⟩ := y2
          replace y2 : x2 = V.int (j : Int) := y2.trans (congrArg V.int (Int.zero_add _))
          subst y2
          have hlt : i < (st ++ [n]).length := by rw [List.length_append, List.length_singleton]; omega
          have hgs : (st ++ [n])[i]? = some (st ++ [n])[i] := List.getElem?_eq_getElem hlt
          have hbd : (j = (st ++ [n])[i]) → i + 1 < mm := fun e => by
            by_cases hi2 : i < st.length
            · omega
            · have e2 : (st ++ [n])[i]? = some n := by rw [List.getElem?_append_right (by omega), show i - st.length = 0 by omega]; rfl
              have e3 : (st ++ [n])[i] = n := Option.some.inj (hgs.symm.trans e2)
              omega
          generalize (st ++ [n])[i] = g at hgs hbd
          refine ⟨rfl, yes_te ⟨_, rfl, _, rfl, _, rfl, _, rfl, S, _, _, _, rfl, rfl, .inl (.inl (off_in p2.2.1 _ _ hSH naS.symm)), atI_nat (nV_get hgs), rfl, .inr ⟨_, rfl, _, _, rfl, rfl, ?_⟩⟩⟩
          have hd : (decide (V.int (j : Int) = V.int (g : Int))) = decide (j = g) := by
            by_cases h : j = g
            · subst h; simp
            · rw [decide_eq_false h]; exact decide_eq_false fun z => h (by have := V.int.inj z; omega)
          dsimp only
          rw [hd]
          by_cases h : j = g
          · rw [decide_eq_true h, if_pos rfl, show (i : Int) + 1 = ((i + 1 : Nat) : Int) by omega]
            exact c2 _ _ hD2 (p2.push (pot_in p2.1) (Off.refl _ _) naD2 (hbd h))
          · rw [decide_eq_false h, if_neg (by decide), Int.add_zero]
            exact c2 _ _ hD2 (p2.push (pot_in p2.1) (Off.refl _ _) naD2 (by omega))
        · exact c _ _ (off_in p2.2.1 _ _ hD naD.symm) (p.push hD p2 naD naD2 nDD2 hDz)
      · obtain ⟨R, hR, _, hp4, ho4, hdp⟩ := p.done hD4 naD hmm0 hmm
        exact q _ _ R hR hp4 (ho6.trans ho4) hdp
def spPlan (K : PySem.W.Frag) : Sp := fun vs H Q _ => ∃ (a : Addr) (n : Nat), vs = [.ref a, .int (n : Int)] ∧ Pot H a ∧ 0 < n ∧ n ≤ 3 ∧ ∀ H' t R k, M14.Good n R k → Pot H' a → Off a H H' → Dp K (del H' a) t (dSh R k) → Q t H'
theorem ok_law_plan (T : All K mg) : FnOk P w K mg base CX0 3 T.f_law_plan T.d_law_plan ["_law_pot_here", "_law_size"] (spPlan K) := by
  refine T.law_plan.F.ok sc_law_plan (fun vs H Q E h => ?_) (fun cdv A outer s H vs Q E hr h => ?_)
  · obtain ⟨a, n, rfl, _⟩ := h
    rfl
  · obtain ⟨a, n, rfl, hp, hn, hn3, q⟩ := h
    refine ⟨_, pss_cons (ps_if (PW.pt (pw_or (pt_cmpR op_eq (pv 1) pe_int (nomark _)) (pw_or1 (pt_cmpR op_eq (pe_call (ok_law_draw T) (hr.mono (by decide)) (by rfl) T.law_draw.g T.law_draw.F.kp T.law_draw.b .nil pass0 (pa_cons (pv 0) (pa_cons pe_int pa_nil))) pe_int (nomark _))))) (pss_cons (ps_set (i := 2) sc_law_plan.nd rfl (by first | exact Or.inl rfl | exact Or.inr rfl) (pe_op op_add pe_int (pe_call (ok_law_draw T) (hr.mono (by decide)) (by rfl) T.law_draw.g T.law_draw.F.kp T.law_draw.b .nil pass0 (pa_cons (pv 0) (pa_cons pe_int pa_nil)))))
      (pss_cons (ps_setLc (i := 3) (own := [("_law_place", 4)]) (g := gName 4) (tt := tYes) (by rfl) sc_law_plan.nd rfl rfl (sw_true rfl rfl rfl (by decide +kernel)) (pi_range1 rfl T.b_range (pa_cons (pv 2) pa_nil))
          (blkOk_by (own := [("_law_place", 4)]) (N := ["_law_pot_here", "_law_size", "_law_many", "_law_lines_here", "_law_place", "_law_row", "_law_letter", "_law_sorts", "_law_line_here"]) (sc := defScope s_law_plan) (by decide +kernel))
          (fun _ _ _ _ _ => pg_name (i := 4) sc_law_plan.nd rfl (by first | exact Or.inl rfl | exact Or.inr rfl)) (fun _ _ _ _ _ => pts_nil)
          (fun _ _ _ _ _ => (pe_lst (pa_cons (pe_callB (call_min2 rfl) (by rfl) T.b_min PyProof.Rows.boot_min (pa_cons (pe_op op_add (pv 4) pe_int) (pa_cons (pe_op op_sub (pv 2) pe_int) pa_nil))) pa_nil))))
      (pss_one (ps_for PassesOwn.never rfl (pi_list (pv 3)) (pg_name (i := 5) sc_law_plan.nd rfl (by first | exact Or.inl rfl | exact Or.inr rfl))
        (pss_one (ps_expr (pe_bm PySem.F.plainAttrs_list PySem.F.slot_list_extend PySem.F.type_list_extend mt_extend (pv 5) (pa_cons (pe_lc (own := [("_law_letter", 6)]) (g := gName 6) (tt := tYes) rfl sc_law_plan.nd (pi_range1 rfl T.b_range (pa_cons (pe_op op_sub (pv 1) pe_int) pa_nil))
          (blkOk_by (own := [("_law_letter", 6)]) (N := ["_law_pot_here", "_law_size", "_law_many", "_law_lines_here", "_law_place", "_law_row", "_law_letter", "_law_sorts", "_law_line_here"]) (sc := defScope s_law_plan) (by decide +kernel))
          (fun _ _ _ _ _ => pg_name (i := 6) sc_law_plan.nd rfl (by first | exact Or.inl rfl | exact Or.inr rfl)) (fun _ _ _ _ _ => pts_nil)
          (fun _ _ _ _ _ => (pe_call (ok_law_draw T) (hr.mono (by decide)) (by rfl) T.law_draw.g T.law_draw.F.kp T.law_draw.b .nil pass0 (pa_cons (pv 0) (pa_cons (pv 2) pa_nil))))) pa_nil)))))))) (pss_one (ps_set (i := 3) sc_law_plan.nd rfl (by first | exact Or.inl rfl | exact Or.inr rfl) (pe_call (ok_law_lines T) (hr.mono (by decide)) (by rfl) T.law_lines.g T.law_lines.F.kp T.law_lines.b .nil pass0 (pa_cons (pv 0) (pa_cons (pv 1) (pa_cons pe_int pa_nil)))))))
      (pss_cons (ps_asg (pe_call (ok_law_met T) (hr.mono (by decide)) (by rfl) T.law_met.g T.law_met.F.kp T.law_met.b .nil pass0 (pa_cons (pv 3) (pa_cons (pe_lc (own := [("_law_line_here", 8)]) (g := gName 8) (tt := tYes) rfl sc_law_plan.nd (pi_list (pv 3))
          (blkOk_by (own := [("_law_line_here", 8)]) (N := ["_law_pot_here", "_law_size", "_law_many", "_law_lines_here", "_law_place", "_law_row", "_law_letter", "_law_sorts", "_law_line_here"]) (sc := defScope s_law_plan) (by decide +kernel))
          (fun _ _ _ _ _ => pg_name (i := 8) sc_law_plan.nd rfl (by first | exact Or.inl rfl | exact Or.inr rfl)) (fun _ _ _ _ _ => pts_nil)
          (fun _ _ _ _ _ => (pe_cmpR op_eq (pe_call (ok_law_draw T) (hr.mono (by decide)) (by rfl) T.law_draw.g T.law_draw.F.kp T.law_draw.b .nil pass0 (pa_cons (pv 0) (pa_cons pe_int pa_nil))) pe_int (by rfl)))) pa_nil))) (pg_tup rfl (pgs_cons (pg_name (i := 3) sc_law_plan.nd rfl (by first | exact Or.inl rfl | exact Or.inr rfl)) (pgs_cons (pg_name (i := 7) sc_law_plan.nd rfl (by first | exact Or.inl rfl | exact Or.inr rfl)) pgs_nil))))
      (pss_one (ps_ret (pe_ifExp (pt_cmpR op_eq (pe_call (ok_law_draw T) (hr.mono (by decide)) (by rfl) T.law_draw.g T.law_draw.F.kp T.law_draw.b .nil pass0 (pa_cons (pv 0) (pa_cons pe_int pa_nil))) pe_int (nomark _)) (pe_call (ok_law_mixed T) (hr.mono (by decide)) (by rfl) T.law_mixed.g T.law_mixed.F.kp T.law_mixed.b .nil pass0 (pa_cons (pv 0) (pa_cons (pv 3) (pa_cons (pv 7) pa_nil)))) (pe_tup (pa_cons (pv 3) (pa_cons (pv 7) pa_nil))))))), ?_⟩
    refine seq_to (join (fun σ' H' => ∃ v x2 x4 x5 x6 R, σ' = [some (.ref a), some (.int (n : Int)), x2, some v, x4, x5, x6, none, none] ∧ Drawn n 40 R ∧ Pot H' a ∧ Off a H H' ∧ Dp K (del H' a) v (dLR R)) (fun N hN => ?_) (fun σ' H1 p => ?_))
    · refine test_to (fun H1 => Pot H1 a ∧ Off a H H1) (fun Q hQ => ?_) (fun H0 r => ?_) (fun H0 r => ?_)
      · refine ⟨_, rfl, rfl, _, rfl, ite2 (fun _ => hQ _ _ ⟨hp, Off.refl _ _⟩) (fun _ => ⟨_, rfl, a, 6, rfl, hp, by decide, by decide, fun H1 d hd hp1 ho1 => ⟨rfl, _, rfl, hQ _ _ ⟨hp1, ho1⟩⟩⟩)⟩
      · obtain ⟨hp0, ho0⟩ := r
        refine ⟨_, rfl, a, 40, rfl, hp0, by decide, by decide, fun H1 d hd hp1 ho1 => ⟨_, _, rfl, rfl, ?_⟩⟩
        have em : (1 : Int) + (d : Int) = ((d + 1 : Nat) : Int) := by omega
        dsimp only
        rw [em]
        have hmm : d + 1 ≤ 40 := hd
        have hmm0 : 0 < d + 1 := Nat.succ_pos _
        generalize d + 1 = mm at hmm hmm0
        have ho01 := ho0.trans ho1
        refine ⟨_, rfl, _, rfl, by omega, by omega, fun D nD => ?_⟩
        rw [show ((mm : Int)).toNat = mm by omega]
        have naD : a ≠ D := hp1.ne nD
        refine lc_dp walk_range (fun i acc H' => Pot H' a ∧ Off a H1 H' ∧ ∃ as : List Addr, acc = as.map V.ref ∧ as.length = i ∧ as.Nodup ∧ a ∉ as ∧ (∀ b ∈ as, H1 b = none) ∧ ∀ (j : Nat) (b : Addr), as[j]? = some b → H' b = some (.lst (nV [min (j + 1) (mm - 1)]))) (sz (by omega)) (fun i acc H' p => by obtain ⟨_, _, as, e, h, _⟩ := p; rw [e, List.length_map]; omega) nD ⟨hp1, Off.refl _ _, [], rfl, rfl, List.nodup_nil, (fun h => nomatch h), (fun b h => nomatch h), fun j b h => nomatch h⟩ (fun _ _ _ _ _ => trivial) (fun i x Hh H' acc C N' hi p hD y c nn => ?_) (fun H4 xs4 hD4 p => ?_)
        · obtain ⟨rfl, y⟩ := y
          replace y : x = V.int (i : Int) := y.trans (congrArg V.int (Int.zero_add _))
          subst y
          obtain ⟨hpp, hoo, as, ea, hl, hnd, hna, hnw, hat⟩ := p
          have hpH := pot_in hpp
          refine ⟨rfl, yes_te ⟨_, rfl, _, _, rfl, rfl, _, rfl, _, _, rfl, rfl, _, _, rfl, by show 1 ≤ sizeLine; decide, fun p np => ?_⟩⟩
          have np1 : H1 p = none := (off_in hoo).free np hpH
          have hv : (if ((mm : Int) - 1) < ((i : Int) + 1) then ((mm : Int) - 1) else ((i : Int) + 1)) = ((min (i + 1) (mm - 1) : Nat) : Int) := by split <;> omega
          rw [hv]
          have nap : a ≠ p := hpH.ne np
          have nDp : D ≠ p := ne_of_none hD np
          have sp := same_upd (o := .lst [.int ((min (i + 1) (mm - 1) : Nat) : Int)]) np
          have hP := upd_same (H := H') (a := p) (o := .lst [.int ((min (i + 1) (mm - 1) : Nat) : Int)])
          refine c _ _ (by rw [upd_ne nDp]; exact hD) ⟨pot_out (hpH.same sp) naD, off_step hoo (Off.of sp), as ++ [p], by rw [ea, List.map_append]; rfl, by rw [List.length_append, hl]; rfl, ?_, ?_, fun b hb => ?_, fun j b hb => ?_⟩
          · refine List.nodup_append.mpr ⟨hnd, by simp, fun x hx y hy => ?_⟩
            rw [List.mem_singleton.mp hy]
            obtain ⟨j, hj⟩ := List.mem_iff_getElem?.mp hx
            exact ne_of_none (del_same _ _ _ _ (hat j x hj)) np
          · intro h
            rcases List.mem_append.mp h with h | h
            · exact hna h
            · exact nap (List.mem_singleton.mp h)
          · rcases List.mem_append.mp hb with hb | hb
            · exact hnw b hb
            · rw [List.mem_singleton.mp hb]; exact np1
          · by_cases hji : j < as.length
            · rw [List.getElem?_append_left hji] at hb
              exact del_mono D sp _ _ (hat j b hb)
            · rw [List.getElem?_append_right (by omega)] at hb
              have hj0 : j = i := by
                have := (List.getElem?_eq_some_iff.mp hb).1
                rw [List.length_singleton] at this
                omega
              subst hj0
              rw [hl, Nat.sub_self] at hb
              cases hb
              rw [del_ne nDp.symm]
              exact hP
        · obtain ⟨hpp, hoo, as, rfl, hl, hnd, hna, hnw, hat⟩ := p
          have hp4 := pot_in hpp
          have ho4 := off_in hoo
          refine ⟨_, rfl, D, rfl, ⟨_, .inl (.inl hD4)⟩, ?_⟩
          refine for_it (walk_list (xs := as.map V.ref)) (fun i σ' H' => ∃ r, σ' = [some (.ref a), some (.int (n : Int)), some (.int (mm : Int)), some (.ref D), none, r, none, none, none] ∧ Off a H1 H' ∧ ∃ f, Grow a D as n mm i f H') ⟨none, rfl, ho4, fun j => [min (j + 1) (mm - 1)], hD4, hp4, fun j b hb => del_same _ _ _ _ (hat j b hb), fun j h => absurd h (Nat.not_lt_zero _), fun _ _ => rfl⟩ (fun i σ' H' _ p => by obtain ⟨_, _, _, f, g⟩ := p; exact .inl (.inl g.lst)) (fun i x σ' H5 H6 hi p y => ?_) (fun σ' H5 p => ?_)
          · obtain ⟨r0, rfl, ho5, f, g⟩ := p
            obtain ⟨rfl, y⟩ := y
            rw [List.getElem?_map] at y
            obtain ⟨b, hb, rfl⟩ := Option.map_eq_some_iff.mp y
            have hbm := List.mem_of_getElem? hb
            have hH5b := g.at_ i b hb
            rw [g.new i (Nat.le_refl _)] at hH5b
            have nab : a ≠ b := fun e => hna (e ▸ hbm)
            have nDb : D ≠ b := fun e => by
              have := g.lst
              rw [e, hH5b] at this
              have h1 := congrArg List.length (HO.lst.inj (Option.some.inj this))
              rw [List.length_map, hl] at h1
              have h2 : mm = 1 := h1.symm
              have h3 := HO.lst.inj (Option.some.inj this)
              cases as with
              | nil => cases hbm
              | cons z zs => cases h3
            refine ⟨_, rfl, .inl ⟨rfl, _, .inl (.inl hH5b)⟩, _, rfl, _, _, rfl, rfl, _, rfl, by omega, by omega, fun D2 nD2 => ?_⟩
            rw [show ((n : Int) - 1).toNat = n - 1 by omega]
            have naD2 : a ≠ D2 := g.pot.ne nD2
            refine lc_dp walk_range (RowP a mm H6) (sz (by omega)) (fun i acc H' p => p.len) nD2 (RowP.nil g.pot) (fun _ _ _ _ _ => trivial) (fun j x2 Hk H'' acc2 C2 N2 hj p2 hD2 y2 c2 nn2 => ?_) (fun Hz ys hDz p2 => ?_)
            · obtain ⟨rfl, rfl⟩ := y2
              refine ⟨rfl, yes_te ⟨_, rfl, _, rfl, a, mm, rfl, pot_in p2.1, hmm0, by omega, fun H7 gg hg hp7 ho7 => ?_⟩⟩
              exact c2 _ _ (ho7 _ _ hD2 naD2.symm) (p2.push hp7 ho7 naD2 hg)
            · obtain ⟨hpz, hoz, l, rfl, hll, hlt⟩ := p2
              have hpz := pot_in hpz
              have hoz := off_in hoz
              have hzb := hoz _ _ hH5b nab.symm
              refine ⟨b, D2, _, _, rfl, rfl, hzb, hDz, by rw [nV_len, nV_len, sizeLine_eq]; show 1 + l.length ≤ _; omega, _, rfl, ?_, fun j => if j = i then min (i + 1) (mm - 1) :: l else f j, ?_, hpz.up nab, fun j b' hb' => ?_, fun j hj => ?_, fun j hj => ?_⟩
              · intro bb o e nb
                have h5 := ho5 _ _ e nb
                have hbb : bb ≠ b := ne_of_none e (hnw b hbm)
                rw [upd_ne hbb]
                exact hoz _ _ h5 nb
              · rw [upd_ne nDb]
                exact hoz _ _ g.lst naD.symm
              · by_cases hji : j = i
                · subst hji
                  rw [hb] at hb'
                  cases hb'
                  rw [upd_same, if_pos rfl]
                  rfl
                · rw [if_neg hji]
                  have hne : b' ≠ b := fun z => by
                    subst z
                    exact hji ((List.getElem?_inj (List.getElem?_eq_some_iff.mp hb').1 hnd).mp (hb'.trans hb.symm))
                  rw [upd_ne hne]
                  exact hoz _ _ (g.at_ j b' hb') (fun z => hna (by rw [← z]; exact List.mem_of_getElem? hb'))
              · by_cases hji : j = i
                · subst hji
                  rw [if_pos rfl]
                  refine ⟨by rw [List.length_cons, hll]; omega, fun z hz => ?_⟩
                  rcases List.mem_cons.mp hz with rfl | hz
                  · omega
                  · exact hlt z hz
                · rw [if_neg hji]
                  exact g.old j (by omega)
              · rw [if_neg (by omega)]
                exact g.new j (by omega)
          · obtain ⟨r0, rfl, ho5, f, g⟩ := p
            rw [List.length_map, hl] at g
            refine hN _ _ ⟨.ref D, _, _, _, _, (List.range mm).map f, rfl, ⟨?_, ?_, fun r hr => ?_, fun p hp gg hg => ?_⟩, g.pot, ho01.trans ho5, .lst (.inl (.inl (by rw [del_ne naD.symm]; exact g.lst))) (dpAll_of ?_ fun j x d hx hd => ?_)⟩
            · rw [List.length_map, List.length_range]; exact hmm0
            · rw [List.length_map, List.length_range]; exact hmm
            · obtain ⟨j, hj, rfl⟩ := List.mem_map.mp hr
              exact (g.old j (List.mem_range.mp hj)).1
            · rw [List.length_map, List.length_range] at hp ⊢
              have e : M14.row ((List.range mm).map f) p = f p := M14.row_get (by rw [List.getElem?_map, List.getElem?_range hp]; rfl)
              rw [e] at hg
              exact (g.old p hp).2 gg hg
            · rw [List.length_map, List.length_map, List.length_map, List.length_range, hl]
            · rw [List.getElem?_map] at hx
              obtain ⟨b, hb, rfl⟩ := Option.map_eq_some_iff.mp hx
              have hj : j < mm := by have := (List.getElem?_eq_some_iff.mp hb).1; omega
              rw [List.getElem?_map, List.getElem?_map, List.getElem?_range hj] at hd
              cases hd
              refine .lst (.inl (.inl ?_)) (dpAll_nV _)
              rw [del_ne (fun z => hna (by rw [← z]; exact List.mem_of_getElem? hb))]
              exact g.at_ j b hb
      · obtain ⟨hp0, ho0⟩ := r
        exact ⟨_, rfl, _, rfl, a, n, 12, rfl, hp0, hn, hn3, by decide, by decide, fun H2 v R hR hp2 ho2 hdp => hN _ _ ⟨v, _, _, _, _, R, rfl, ⟨hR.ne, by have := hR.few; omega, hR.len, hR.val⟩, hp2, ho0.trans ho2, hdp⟩⟩
    · obtain ⟨v, x2, x4, x5, x6, R, rfl, hR, hp1, ho1, hv⟩ := p
      obtain ⟨va, xs, rfl, hS, hxl, hrow⟩ := dLR_row hv
      have hfew := hR.few
      refine ⟨_, rfl, _, rfl, va, rfl, ⟨_, sq_same hS (del_same _ _)⟩, fun D nD => ?_⟩
      have naD : a ≠ D := hp1.ne nD
      refine lc_dp (walk_list (xs := xs)) (fun i acc H' => Pot H' a ∧ Off a H1 H' ∧ ∃ k : List Bool, acc = k.map V.bl ∧ k.length = i) (sz (by omega)) (fun i acc H' p => by obtain ⟨_, _, k, e, h⟩ := p; rw [e, List.length_map]; omega) nD ⟨hp1, Off.refl _ _, [], rfl, rfl⟩ (fun i acc H' p _ => sq_same hS ((off_del (off_in p.2.1)).trans (del_same _ _))) (fun i x Hh H' acc C N hi p hD y c nn => ?_) (fun H2 xs2 hD2 p => ?_)
      · obtain ⟨rfl, _⟩ := y
        obtain ⟨hpp, hoo, k, ek, hk⟩ := p
        refine ⟨rfl, yes_te ⟨_, rfl, a, 2, rfl, pot_in hpp, by decide, by decide, fun H4 g hg hp4 ho4 => ⟨rfl, ?_⟩⟩⟩
        exact c _ _ (ho4 _ _ hD naD.symm) ⟨pot_out hp4 naD, off_step hoo ho4, k ++ [decide (V.int (g : Int) = V.int 0)], by rw [ek, List.map_append]; rfl, by rw [List.length_append, hk]; rfl⟩
      · obtain ⟨hpp, hoo, k, rfl, hk⟩ := p
        have hp2 := pot_in hpp
        have ho2 := off_in hoo
        obtain ⟨px, py, hpa, _⟩ := id hp2
        have hGood : M14.Good n (metR R) (metK R k) := M14.good_ren hR.val hfew hR.len hR.ne (List.Perm.refl _) (M14.met_head R 0) (by unfold metK; rw [List.length_map])
        refine ⟨a, _, .ref va, .ref D, R, k, rfl, hpa, Dp.same (off_del ho2) hv, .lst (.inl (.inl (by rw [del_ne naD.symm]; exact hD2))) (dp_bools _), hR.val, hR.ne, hfew, (fun r hr => by rw [hR.len r hr]; exact hn3), by omega, fun H3 t s3 ht => ?_⟩
        have hp3 := hp2.same s3
        have ho3 := ho1.trans (ho2.trans (Off.of s3))
        obtain ⟨tp, va', vb', rfl, hST, hda, hdb⟩ := dp_sheet ht
        refine ⟨tp, _, rfl, sqT_same hST (del_same _ _), rfl, _, _, rfl, _, _, rfl, rfl, ?_⟩
        refine ⟨_, rfl, a, 2, rfl, hp3, by decide, by decide, fun H4 d hd hp4 ho4 => ⟨rfl, _, rfl, ite2 (fun _ => ?_) (fun _ => ?_)⟩⟩
        · exact ⟨_, rfl, _, rfl, _, rfl, a, va', vb', n, metR R, metK R k, rfl, hp4, Dp.same (off_del ho4) hda, Dp.same (off_del ho4) hdb, hGood, hn3, fun H5 t5 R5 k5 hG5 hp5 ho5 ht5 => q _ _ R5 k5 hG5 hp5 (ho3.trans (ho4.trans ho5)) ht5⟩
        · refine ⟨_, rfl, _, rfl, by show 2 ≤ sizeLine; decide, fun t nt => ?_⟩
          have nat : a ≠ t := hp4.ne nt
          have st := same_upd (o := .tup [va', vb']) nt
          exact q _ _ (metR R) (metK R k) hGood (hp4.same st) (ho3.trans (ho4.trans (Off.of st))) (.tup (.inl (.inl (by rw [del_ne nat.symm]; exact upd_same))) (.cons (Dp.same ((off_del ho4).trans (del_mono a st)) hda) (.cons (Dp.same ((off_del ho4).trans (del_mono a st)) hdb) .nil)))
end
end Lw
namespace Lw
open PySem PySem.Spec PyProof.Rows L3
open L2 hiding del del_same del_ne
theorem rows_take (sg : List Nat) (R : List (List Nat)) (k : List Bool) (i : Nat) (h : i < R.length) : (M90.rows sg R k).take (i + 2) = (M90.rows sg R k).take (i + 1) ++ [M90.jn (M90.rowW R k i)] := by
  rw [List.take_add_one]
  congr 1
  unfold M90.rows M90.allW
  rw [List.getElem?_map, List.getElem?_cons_succ, List.getElem?_map, List.getElem?_range h]
  rfl
section
variable {P : Program} {w : World} {K : PySem.W.Frag} {mg : Str → Option Value} {base : Heap}
def spLText (K : PySem.W.Frag) : Sp := fun vs H Q _ => ∃ (sg : List Nat) (v b : V) (R : List (List Nat)) (k : List Bool), vs = [tx sg, v, b] ∧ Dp K H v (dLR R) ∧ Dp K H b (.list (dB k)) ∧ M90.Ok sg R k ∧ ∀ H', Same H H' → Q (tx (M90.text sg R k)) H'
theorem ok_law_text (T : All K mg) : FnOk P w K mg base CX0 1 T.f_law_text T.d_law_text ["_law_signs", "_law_rows_now", "_law_kinds_now"] (spLText K) := by
  refine T.law_text.F.ok sc_law_text (fun vs H Q E h => ?_) (fun cdv A outer s H vs Q E hr h => ?_)
  · obtain ⟨sg, v, b, R, k, rfl, _⟩ := h
    rfl
  · obtain ⟨sg, v, b, R, k, rfl, hv, hb, hO, q⟩ := h
    obtain ⟨va, xs, rfl, hS, hxl, hrow⟩ := dLR_row hv
    obtain ⟨kb, rfl, hkb⟩ := sqL_kinds hb
    refine ⟨_, pss_cons (ps_set (i := 3) sc_law_text.nd rfl (by first | exact Or.inl rfl | exact Or.inr rfl) (pe_lst (pa_cons (pe_op op_addT pe_str (pv 0)) pa_nil)))
      (pss_cons (ps_for PassesOwn.never rfl (pi_enumS rfl T.b_enumerate (pa_cons (pv 1) pa_nil)) (pg_tup rfl (pgs_cons (pg_name (i := 4) sc_law_text.nd rfl (by first | exact Or.inl rfl | exact Or.inr rfl)) (pgs_cons (pg_name (i := 5) sc_law_text.nd rfl (by first | exact Or.inl rfl | exact Or.inr rfl)) pgs_nil)))
        (pss_cons (ps_set (i := 6) sc_law_text.nd rfl (by first | exact Or.inl rfl | exact Or.inr rfl) (pe_ifExp (pt_val (pe_ix ix_list (pv 2) (pv 4) (fun _ _ => rfl))) pe_str pe_str))
      (pss_one (ps_expr (pe_bm PySem.F.plainAttrs_list PySem.F.slot_list_append PySem.F.type_list_append mt_append (pv 3) (pa_cons (pe_join pe_str (pe_op op_cat (pe_lst (pa_cons (pv 6) (pa_cons (pe_callTy call_str_int (by rfl) T.b_str (show bootBuiltins "str" = some (.type "str") by decide +kernel) (pa_cons (pv 4) pa_nil)) (pa_cons pe_str pa_nil)))) (pe_lc (own := [("_law_goal", 7)]) (g := gName 7) (tt := tYes) rfl sc_law_text.nd (pi_list (pv 5))
          (blkOk_by (own := [("_law_goal", 7)]) (N := ["_law_signs", "_law_rows_now", "_law_kinds_now", "_law_lines_here", "_law_place", "_law_row", "_law_word", "_law_goal", "_law_line_here"]) (sc := defScope s_law_text) (by decide +kernel))
          (fun _ _ _ _ _ => pg_name (i := 7) sc_law_text.nd rfl (by first | exact Or.inl rfl | exact Or.inr rfl)) (fun _ _ _ _ _ => pts_nil)
          (fun _ _ _ _ _ => (pe_callTy call_str_int (by rfl) T.b_str (show bootBuiltins "str" = some (.type "str") by decide +kernel) (pa_cons (pv 7) pa_nil)))))) pa_nil))))))
      (pss_one (ps_ret (pe_join pe_str (pe_lc (own := [("_law_line_here", 8)]) (g := gName 8) (tt := tYes) rfl sc_law_text.nd (pi_list (pv 3))
          (blkOk_by (own := [("_law_line_here", 8)]) (N := ["_law_signs", "_law_rows_now", "_law_kinds_now", "_law_lines_here", "_law_place", "_law_row", "_law_word", "_law_goal", "_law_line_here"]) (sc := defScope s_law_text) (by decide +kernel))
          (fun _ _ _ _ _ => pg_name (i := 8) sc_law_text.nd rfl (by first | exact Or.inl rfl | exact Or.inr rfl)) (fun _ _ _ _ _ => pts_nil)
          (fun _ _ _ _ _ => (pe_op op_addT (pv 8) pe_str))))))), ?_⟩
    have hfew := hO.sht.few
    have hkin := hO.sht.kin
    have hsg := hO.few
    have el0 : [tx ((M90.wLet ++ [32]) ++ sg)] = ((M90.rows sg R k).take 1).map tx := rfl
    refine ⟨_, rfl, M90.wLet ++ [32], sg, rfl, rfl, by rw [sizeLine_eq]; show 8 + sg.length ≤ _; omega, by show 1 ≤ sizeLine; decide, fun D nD => ?_⟩
    rw [el0]
    have sD := same_upd (o := .lst (((M90.rows sg R k).take 1).map tx)) nD
    have hD0 := upd_same (H := H) (a := D) (o := .lst (((M90.rows sg R k).take 1).map tx))
    generalize upd H D (.lst (((M90.rows sg R k).take 1).map tx)) = H1 at *
    refine ⟨_, rfl, .L va, xs, rfl, sq_same hS sD, ?_⟩
    refine for_it walk_enumS (fun i σ H' => ∃ x4 x5 x6, σ = [some (tx sg), some (.ref va), some (.ref kb), some (.ref D), x4, x5, x6, none, none] ∧ H' D = some (.lst (((M90.rows sg R k).take (i + 1)).map tx)) ∧ Same H H') ⟨none, none, none, rfl, hD0, sD⟩ (fun i σ H' _ p => by obtain ⟨_, _, _, _, _, sm⟩ := p; exact sq_same hS sm) (fun i x σ H2 H3 hi p y => ?_) (fun σ H2 p => ?_)
    · obtain ⟨x4, x5, x6, rfl, hD, sm⟩ := p
      obtain ⟨Tp, x1, x2, rfl, nT, rfl, e1, e2⟩ := y
      cases e1
      have hiR : i < R.length := by omega
      obtain ⟨rb, hx, hSb⟩ := hrow i hiR
      have e2 : xs[i]? = some x2 := e2
      rw [hx] at e2
      cases e2
      have hr'l : (M14.row R i).length ≤ 3 := by rw [hO.sht.len _ (M14.row_mem hiR)]; exact hsg
      have hr'v : ∀ g ∈ M14.row R i, g < 60 := fun g hg => by have := hO.rowlt hiR g hg; omega
      have hi60 : i < 60 := by omega
      have sT := same_up (o := .tup [.int (i : Nat), .ref rb]) sm (sm.free nT)
      have nDT : D ≠ Tp := ne_of_none hD nT
      have hDT : upd H2 Tp (.tup [.int (i : Nat), .ref rb]) D = some (.lst (((M90.rows sg R k).take (i + 1)).map tx)) := by rw [upd_ne nDT]; exact hD
      have hTp := upd_same (H := H2) (a := Tp) (o := .tup [.int (i : Nat), .ref rb])
      generalize upd H2 Tp (.tup [.int (i : Nat), .ref rb]) = H5 at *
      refine ⟨Tp, _, rfl, .inl (.inl hTp), rfl, _, _, rfl, _, _, rfl, rfl, ?_⟩
      refine ⟨_, rfl, _, rfl, kb, _, _, _, rfl, rfl, sq_same hkb sT, atI_nat (kAt_get (by omega)), _, rfl, ite_wd ?_⟩
      refine ⟨_, rfl, .inl ⟨rfl, _, .inl (.inl hDT)⟩, ⟨⟨_, rfl⟩, _, rfl, _, rfl, _, rfl, by rw [Int.natAbs_natCast]; exact M90.log_small hi60, by show 3 ≤ sizeLine; decide, fun p2 n2 => ?_⟩⟩
      rw [← M90.dec_str i hi60]
      have s2 := same_upd (o := .lst [tx (M90.wd (M14.kAt k i)), tx (M90.dec i), .str "to"]) n2
      have h2 := upd_same (H := H5) (a := p2) (o := .lst [tx (M90.wd (M14.kAt k i)), tx (M90.dec i), .str "to"])
      generalize upd H5 p2 (.lst [tx (M90.wd (M14.kAt k i)), tx (M90.dec i), .str "to"]) = H6 at *
      have hSb6 := sq_same hSb (sT.trans s2)
      refine ⟨_, rfl, rb, rfl, ⟨_, hSb6⟩, fun D2 nD2 => ?_⟩
      refine lc_gen (walk_list (xs := nV (M14.row R i))) (Same H6) (fun j acc => acc = (((M14.row R i).take j).map M90.dec).map tx) (sz (by rw [nV_len]; omega)) (fun j acc e => by rw [e, List.length_map, List.length_map, List.length_take]; omega) rfl (same_upd nD2) (fun _ _ h => same_up h nD2) (fun _ h => sq_same hSb6 h) (fun j x H7 H8 acc C N hj rs hD2 ha y c nn => ?_) (fun H7 ys rs hD2 ha => ?_)
      · obtain ⟨rfl, y⟩ := y
        obtain ⟨g, hg, rfl⟩ := nV_inv y
        have hg60 := hr'v g (List.mem_of_getElem? hg)
        refine ⟨rfl, yes_te ⟨_, rfl, _, rfl, by rw [Int.natAbs_natCast]; exact M90.log_small hg60, c _ _ rs hD2 ?_⟩⟩
        rw [ha, List.take_add_one, hg, ← M90.dec_str g hg60, List.map_append, List.map_append]
        rfl
      · rw [nV_len, List.take_length] at ha
        subst ha
        have s27 := s2.trans rs
        refine ⟨p2, D2, _, _, rfl, rfl, rs _ _ h2, hD2, by rw [List.length_map, List.length_map, sizeLine_eq]; show 3 + _ ≤ _; omega, fun p4 n4 => ?_⟩
        have s4 := same_upd (o := .lst ([tx (M90.wd (M14.kAt k i)), tx (M90.dec i), .str "to"] ++ ((M14.row R i).map M90.dec).map tx)) n4
        have h4 : upd H7 p4 (.lst ([tx (M90.wd (M14.kAt k i)), tx (M90.dec i), .str "to"] ++ ((M14.row R i).map M90.dec).map tx)) p4 = some (.lst ((M90.rowW R k i).map tx)) := upd_same
        have hwm : M90.rowW R k i ∈ M90.allW sg R k := List.mem_cons_of_mem _ (List.mem_map.mpr ⟨i, List.mem_range.mpr hiR, rfl⟩)
        have hwf := M90.words_few hO _ hwm
        have hsum := sum_len 7 (M90.rowW R k i) hwf.2
        have hw6 := hwf.1
        refine ⟨(" " : Str), p4, (M90.rowW R k i).map tS, rfl, rfl, .inl (.inl (.inl (by rw [show ((M90.rowW R k i).map tS).map V.str = (M90.rowW R k i).map tx from by rw [List.map_map]; rfl]; exact h4))), ?_, ?_⟩
        · rw [List.length_map, show ((" " : Str)).length = 1 from rfl]
          omega
        rw [join_w]
        have hl3 : ((M90.rows sg R k).take (i + 1)).length ≤ i + 1 := by rw [List.length_take]; omega
        have sAll := s27.trans s4
        refine ⟨D, _, _, rfl, rfl, sAll _ _ hDT, by rw [List.length_map, sizeLine_eq]; omega, _, _, _, rfl, ?_, same_up (sT.trans sAll) nD⟩
        rw [upd_same, rows_take sg R k i hiR, List.map_append]
        rfl
    · obtain ⟨x4, x5, x6, rfl, hD, sm⟩ := p
      rw [hxl, List.take_of_length_le (by rw [M90.rows_len]; exact Nat.le_refl _)] at hD
      have hrf := M90.row_few hO
      have hrl := M90.rows_len sg R k
      refine ⟨⟨_, rfl⟩, _, rfl, D, rfl, ⟨_, .inl (.inl hD)⟩, fun D3 nD3 => ?_⟩
      refine lc_gen (walk_list (xs := (M90.rows sg R k).map tx)) (Same H2) (fun j acc => acc = (((M90.rows sg R k).take j).map M90.endd).map tx) (sz (by rw [List.length_map]; omega)) (fun j acc e => by rw [e, List.length_map, List.length_map, List.length_take]; omega) rfl (same_upd nD3) (fun _ _ h => same_up h nD3) (fun _ h => .inl (.inl (h _ _ hD))) (fun j x H7 H8 acc C N hj rs hD2 ha y c nn => ?_) (fun H7 ys rs hD2 ha => ?_)
      · obtain ⟨rfl, y⟩ := y
        rw [List.getElem?_map] at y
        obtain ⟨l, hl, rfl⟩ := Option.map_eq_some_iff.mp y
        have hll := hrf l (List.mem_of_getElem? hl)
        refine ⟨rfl, yes_te ⟨_, rfl, l, [10], rfl, rfl, by rw [sizeLine_eq]; show l.length + 1 ≤ _; omega, c _ _ rs hD2 ?_⟩⟩
        rw [ha, List.take_add_one, hl, List.map_append, List.map_append]
        rfl
      · rw [List.length_map, List.take_length] at ha
        subst ha
        have h2 : ∀ l ∈ mL sg R k, l.length ≤ 49 := fun l hl => by
          obtain ⟨m, hm, rfl⟩ := List.mem_map.mp hl
          have := hrf m hm
          unfold M90.endd
          simp
          omega
        have h3 := sum_len 49 (mL sg R k) h2
        have h4 : (mL sg R k).length ≤ 41 := by rw [List.length_map, M90.rows_len]; omega
        refine ⟨("" : Str), D3, (mL sg R k).map tS, rfl, rfl, .inl (.inl (.inl (by rw [List.map_map (l := mL sg R k)]; exact hD2))), ?_, ?_⟩
        · rw [List.length_map, show (("" : Str)).length = 0 from rfl]
          omega
        · rw [join_e]
          exact q _ (sm.trans rs)
def spLGoes (K : PySem.W.Frag) : Sp := fun vs H Q _ => ∃ (v : V) (sg t : List Nat) (R : List (List Nat)) (k : List Bool), vs = [v, tx sg, tx t] ∧ Dp K H v (dLR R) ∧ M14.Sht sg.length R k ∧ (∀ c ∈ t, c ∈ sg) ∧ t.length ≤ 100 ∧ ∀ H', Same H H' → Q (.int ((M14.led sg R 0 t : Nat) : Int)) H'
theorem ok_law_goes (T : All K mg) : FnOk P w K mg base CX0 1 T.f_law_goes T.d_law_goes ["_law_lines_here", "_law_signs", "_law_text_here"] (spLGoes K) := by
  refine T.law_goes.F.ok sc_law_goes (fun vs H Q E h => ?_) (fun cdv A outer s H vs Q E hr h => ?_)
  · obtain ⟨v, sg, t, R, k, rfl, _⟩ := h
    rfl
  · obtain ⟨v, sg, t, R, k, rfl, hv, hG, ht, hz, q⟩ := h
    obtain ⟨va, xs, rfl, hS, hxl, hrow⟩ := dLR_row hv
    refine ⟨_, pss_cons (ps_set (i := 3) sc_law_goes.nd rfl (by first | exact Or.inl rfl | exact Or.inr rfl) pe_int)
      (pss_cons (ps_for PassesOwn.never rfl (pi_str (pv 2)) (pg_name (i := 4) sc_law_goes.nd rfl (by first | exact Or.inl rfl | exact Or.inr rfl))
        (pss_one (ps_set (i := 3) sc_law_goes.nd rfl (by first | exact Or.inl rfl | exact Or.inr rfl) (pe_ix ix_list (pe_ix ix_list (pv 0) (pv 3) (fun _ _ => rfl)) (pe_bm PySem.F.plainAttrs_str PySem.F.slot_str_index PySem.F.type_str_index mt_indexT (pv 1) (pa_cons (pv 4) pa_nil)) (fun _ _ => rfl)))))
      (pss_one (ps_ret (pv 3)))), ?_⟩
    refine ⟨_, rfl, tS t, rfl, for_it walk_tx (fun i σ H' => ∃ c, σ = [some (.ref va), some (tx sg), some (tx t), some (.int ((M14.led sg R 0 (t.take i) : Nat) : Int)), c] ∧ H' = H) ⟨none, rfl, rfl⟩ (fun _ _ _ _ _ => trivial) (fun i x σ H1 H2 hi pp y => ?_) (fun σ H' pp => ?_)⟩
    · obtain ⟨c0, rfl, rfl⟩ := pp
      obtain ⟨rfl, c, hc, rfl⟩ := y
      have hcs := ht c (List.mem_of_getElem? hc)
      have hlt : M14.led sg R 0 (t.take i) < R.length := M14.led_lt hG hG.ne fun x hx => ht x (List.mem_of_mem_take hx)
      obtain ⟨g, hg, hgl, hgd⟩ := M14.led_step hG hlt hcs
      obtain ⟨rb, hx, hSb⟩ := hrow _ hlt
      refine ⟨_, rfl, _, rfl, va, xs, _, _, rfl, rfl, hS, atI_nat hx, _, rfl, rfl, _, rfl, sg, c, rfl, rfl, hcs, rb, _, _, _, rfl, rfl, hSb, atI_nat (nV_get hg), some (tx [c]), ?_, rfl⟩
      rw [List.take_add_one, hc]
      show _ = [_, _, _, some (V.int ((M14.led sg R 0 (t.take i ++ [c]) : Nat) : Int)), _]
      rw [M14.led_snoc, hgd]
      rfl
    · obtain ⟨c0, rfl, rfl⟩ := pp
      rw [List.take_length]
      exact ⟨_, rfl, q _ (Same.refl _)⟩
end
end Lw
namespace Lw
open PySem PySem.Spec PyProof.Rows L3
open L2 hiding del del_same del_ne
theorem eqv_rowsL (R S : List (List Nat)) : PyData.eqv (dLR R) (dLR S) = decide (R = S) := by
  show PyData.eqvAll _ _ = _
  exact eqv_map (fun r => PyData.list (dN r)) (fun a b => by show PyData.eqvAll _ _ = _; exact eqv_dN a b) R S
theorem eqv_kinds (k l : List Bool) : PyData.eqv (.list (dB k)) (.list (dB l)) = decide (k = l) := by
  show PyData.eqvAll _ _ = _
  exact eqv_map PyData.bool (fun a b => by cases a <;> cases b <;> rfl) k l
theorem flat_1 (t : List Nat) : (t.map fun c => [c]).flatten = t := by
  induction t with
  | nil => rfl
  | cons c t ih => rw [List.map_cons, List.flatten_cons, ih]; rfl
theorem join_1 (t : List Nat) : Txt.join ("" : Str) (t.map fun c => tS [c]) = tS t := by
  have e := join_e (t.map fun c => [c])
  rw [List.map_map, flat_1] at e
  exact e
section
variable {P : Program} {w : World} {K : PySem.W.Frag} {mg : Str → Option Value} {base : Heap}
def spAsked (K : PySem.W.Frag) (C : Addr) : Sp := fun vs H Q _ => ∃ (a m : Addr) (sg : List Nat) (v b : V) (R : List (List Nat)) (k : List Bool), vs = [.ref a, .ref m, tx sg, v, b] ∧ Pot H a ∧ Mach C K (del H a) m sg R k ∧ Dp K (del H a) v (dLR R) ∧ Dp K (del H a) b (.list (dB k)) ∧ ∀ H', Pot H' a → Off a H H' → Q (.bl true) H'
theorem ok_law_asked_right (T : All K mg) : FnOkG P w K mg base CX0 5 T.f_law_asked_right T.d_law_asked_right ["_law_pot_here", "_law_back", "_law_signs", "_law_lines_here", "_law_sorts"] (spAsked K T.C_Machine) := by
  refine okG T.law_asked_right.F sc_law_asked_right (fun vs H Q E h => ?_) (fun cdv A outer s H vs Q E hr hG h => ?_)
  · obtain ⟨a, m, sg, v, b, R, k, rfl, _⟩ := h
    rfl
  · obtain ⟨a, m, sg, v, b, R, k, rfl, hp, hM, hv, hb, q⟩ := h
    refine ⟨_, pss_cons (ps_if (PW.pt (pw_or (pt_cmpR (op_neD (u64 hr)) (pe_meth0 (pv 1) T.cl_Machine T.Machine_rows.m (ok_Machine_rows T) (hr.mono (by decide)) T.Machine_rows.b .nil pass0) (pv 3) (nomark _)) (pw_or (pt_cmpR (op_neD (u64 hr)) (pe_meth0 (pv 1) T.cl_Machine T.Machine_kinds.m (ok_Machine_kinds T) (hr.mono (by decide)) T.Machine_kinds.b .nil pass0) (pv 4) (nomark _)) (pw_or (pt_cmpR op_ne (pe_prop (pv 1) T.cl_Machine T.Machine_letters.p (ok_Machine_letters T) (hr.mono (by decide)) T.Machine_letters.b .nil pass0 rfl) (pv 2) (nomark _)) (pw_or1 (pt_cmpR op_ne (pe_callB (cr_lenOwn (FnOkG.of (ok_Machine_len T)) (hr.mono (by decide)) hG T.Machine_len.b T.Machine_len.m) (by rfl) T.b_len PySem.boot_len (pa_cons (pv 1) pa_nil)) (pe_callB call_len_seq (by rfl) T.b_len PySem.boot_len (pa_cons (pv 3) pa_nil)) (nomark _))))))) (pss_one ps_never) pss_nil)
      (pss_cons (ps_for PassesOwn.never rfl (pi_range1 rfl T.b_range (pa_cons pe_int pa_nil)) (pg_name (i := 5) sc_law_asked_right.nd rfl (by first | exact Or.inl rfl | exact Or.inr rfl))
        (pss_cons (ps_set (i := 6) sc_law_asked_right.nd rfl (by first | exact Or.inl rfl | exact Or.inr rfl) (pe_join pe_str (pe_lc (own := [("_law_more", 7)]) (g := gName 7) (tt := tYes) rfl sc_law_asked_right.nd (pi_range1 rfl T.b_range (pa_cons (pe_call (ok_law_draw T) (hr.mono (by decide)) (by rfl) T.law_draw.g T.law_draw.F.kp T.law_draw.b .nil pass0 (pa_cons (pv 0) (pa_cons pe_int pa_nil))) pa_nil))
          (blkOk_by (own := [("_law_more", 7)]) (N := ["_law_pot_here", "_law_back", "_law_signs", "_law_lines_here", "_law_sorts", "_law_turn", "_law_text_here", "_law_more", "_law_here"]) (sc := defScope s_law_asked_right) (by decide +kernel))
          (fun _ _ _ _ _ => pg_name (i := 7) sc_law_asked_right.nd rfl (by first | exact Or.inl rfl | exact Or.inr rfl)) (fun _ _ _ _ _ => pts_nil)
          (fun _ _ _ _ _ => (pe_call (ok_law_pick T) (hr.mono (by decide)) (by rfl) T.law_pick.g T.law_pick.F.kp T.law_pick.b .nil pass0 (pa_cons (pv 0) (pa_cons (pv 2) pa_nil)))))))
      (pss_cons (ps_set (i := 8) sc_law_asked_right.nd rfl (by first | exact Or.inl rfl | exact Or.inr rfl) (pe_call (ok_law_goes T) (hr.mono (by decide)) (by rfl) T.law_goes.g T.law_goes.F.kp T.law_goes.b .nil pass0 (pa_cons (pv 3) (pa_cons (pv 2) (pa_cons (pv 6) pa_nil)))))
      (pss_one (ps_if (PW.pt (pw_or (pt_cmpR op_ne (pe_meth (pv 1) T.cl_Machine T.Machine_takes.m (ok_Machine_takes T) (hr.mono (by decide)) T.Machine_takes.b .nil pass0 (pa_cons (pv 6) pa_nil)) (pe_ix ix_list (pv 4) (pv 8) (fun _ _ => rfl)) (nomark _)) (pw_or (pt_cmpR op_ne (pe_meth (pv 1) T.cl_Machine T.Machine_goes.m (ok_Machine_goes T) (hr.mono (by decide)) T.Machine_goes.b .nil pass0 (pa_cons pe_int (pa_cons (pv 6) pa_nil))) (pv 8) (nomark _)) (pw_or1 (pt_cmpR op_ne (pe_cmpR (op_inOwn (FnOkG.of (ok_Machine_contains T)) (hr.mono (by decide)) hG T.Machine_contains.b T.Machine_contains.m) (pv 6) (pv 1) (by rfl)) (pe_ix ix_list (pv 4) (pv 8) (fun _ _ => rfl)) (nomark _)))))) (pss_one ps_never) pss_nil)))))
      (pss_one (ps_ret pe_bl))), ?_⟩
    have hS := hM.good.toSht
    have hL := hM.lets
    obtain ⟨dx, mr, mq, hat, _⟩ := id hM.at_
    obtain ⟨va, xs, rfl, hSv, hxl, hrow⟩ := dLR_row hv
    obtain ⟨kb, rfl, hkb⟩ := sqL_kinds hb
    have d0 : Same (del H a) H := del_same _ _
    have hkin := hS.kin
    have wR : SeqAt.shaped (dLR R) = true := (wt_dLR hS hL.few).shaped (by decide)
    have wK : SeqAt.shaped (.list (dB k)) = true := (wt_kinds hS).shaped (by decide)
    dsimp only [cxOf]
    refine ⟨_, rfl, m, dx, _, rfl, d0 _ _ hat, rfl, m, sg, R, k, rfl, hM.same d0, fun H1 p1 s1 np1 hN => ?_⟩
    have d1 := d0.trans s1
    refine ⟨_, rfl, dLR R, dLR R, hN.dp, Dp.same d1 hv, wR, wR, _, rfl, ite_f (by rw [eqv_rowsL]; simp) ?_⟩
    refine ⟨_, rfl, m, dx, _, rfl, d1 _ _ hat, rfl, m, sg, R, k, rfl, hM.same d1, fun p2 np2 => ?_⟩
    have s2 := same_upd (o := .lst (k.map V.bl)) np2
    have h2 := upd_same (H := H1) (a := p2) (o := .lst (k.map V.bl))
    generalize upd H1 p2 (.lst (k.map V.bl)) = H2 at *
    have d2 := d1.trans s2
    refine ⟨_, rfl, .list (dB k), .list (dB k), .lst (.inl (.inl h2)) (dp_bools _), Dp.same d2 hb, wK, wK, _, rfl, ite_f (by rw [eqv_kinds]; simp) ?_⟩
    refine ⟨_, rfl, m, dx, _, rfl, d2 _ _ hat, m, sg, R, k, rfl, hM.same d2, _, rfl, rfl, _, rfl, ite_f (by simp) ?_⟩
    refine ⟨_, rfl, m, dx, _, rfl, d2 _ _ hat, m, sg, R, k, rfl, hM.same d2, R.length, rfl, by have := hS.few; exact sz (by omega), _, rfl, va, xs, rfl, .inl (sq_same hSv d2), rfl, _, rfl, ite_f (by rw [hxl]; simp) ?_⟩
    have hp2 := (hp.same s1).same s2
    have ho2 : Off a H H2 := Off.of (s1.trans s2)
    refine ⟨_, rfl, by decide, by decide, for_it walk_range (fun i σ H' => ∃ x5 x6 x8, σ = [some (.ref a), some (.ref m), some (tx sg), some (.ref va), some (.ref kb), x5, x6, none, x8] ∧ Pot H' a ∧ Off a H H') ⟨none, none, none, rfl, hp2, ho2⟩ (fun _ _ _ _ _ => trivial) (fun i x σ H3 H4 hi p y => ?_) (fun σ H3 p => ?_)⟩
    · obtain ⟨x5, x6, x8, rfl, hp3, ho3⟩ := p
      obtain ⟨rfl, rfl⟩ := y
      refine ⟨⟨_, rfl⟩, _, rfl, a, 14, rfl, hp3, by decide, by decide, fun H5 d hd hp5 ho5 => ⟨_, rfl, by omega, by omega, fun D nD => ?_⟩⟩
      rw [show ((d : Int)).toNat = d by omega]
      have naD : a ≠ D := hp5.ne nD
      refine lc_dp walk_range (fun i acc H' => Pot H' a ∧ Off a H5 H' ∧ ∃ t : List Nat, acc = t.map (fun c => tx [c]) ∧ t.length = i ∧ ∀ c ∈ t, c ∈ sg) (sz (by omega)) (fun i acc H' p => by obtain ⟨_, _, t, e, h, _⟩ := p; rw [e, List.length_map]; omega) nD ⟨hp5, Off.refl _ _, [], rfl, rfl, fun c h => nomatch h⟩ (fun _ _ _ _ _ => trivial) (fun j x2 Hk H'' acc2 C2 N2 hj p2 hD2 y2 c2 nn2 => ?_) (fun H6 ys hD6 p2 => ?_)
      · obtain ⟨rfl, rfl⟩ := y2
        obtain ⟨hpk, hok, t, et, htl, hts⟩ := p2
        refine ⟨rfl, yes_te ⟨_, rfl, _, rfl, a, tx sg, rfl, pot_in hpk, .inl ⟨sg, rfl, (fun e => by have := hL.ne; rw [e] at this; exact absurd this (by decide)), by have := hL.few; omega, fun H7 c hc hp7 ho7 => ?_⟩⟩⟩
        refine c2 _ _ (ho7 _ _ hD2 naD.symm) ⟨pot_out hp7 naD, off_step hok ho7, t ++ [c], by rw [et, List.map_append]; rfl, by rw [List.length_append, htl]; rfl, fun z hz => ?_⟩
        rcases List.mem_append.mp hz with hz | hz
        · exact hts z hz
        · rw [List.mem_singleton.mp hz]; exact hc
      · obtain ⟨hpk, hok, t, rfl, htl, hts⟩ := p2
        have hp6 := pot_in hpk
        have ho6 := ho3.trans (ho5.trans (off_in hok))
        have e1 : (t.map fun c => tS [c]).map V.str = t.map fun c => tx [c] := by rw [List.map_map]; rfl
        have hsum : ((t.map fun c => tS [c]).map (·.length)).sum ≤ t.length * 1 := by
          have h := sum_len 1 (t.map fun c => [c]) (fun w hw => by obtain ⟨c, _, rfl⟩ := List.mem_map.mp hw; exact Nat.le_refl _)
          rw [List.length_map, List.map_map (l := t) (f := fun c => [c])] at h
          exact h
        refine ⟨("" : Str), D, t.map fun c => tS [c], rfl, rfl, .inl (.inl (.inl (by rw [e1]; exact hD6))), ?_, ?_⟩
        · rw [List.length_map, show (("" : Str)).length = 0 from rfl]
          omega
        rw [join_1]
        have d6 : Same (del H a) H6 := (off_del ho6).trans (del_same _ _)
        refine ⟨_, rfl, _, rfl, _, rfl, .ref va, sg, t, R, k, rfl, Dp.same d6 hv, hS, hts, by omega, fun H7 s7 => ?_⟩
        have d7 := d6.trans s7
        have hled : M14.led sg R 0 t < R.length := M14.led_lt hS hS.ne hts
        refine ⟨_, rfl, m, dx, _, rfl, d7 _ _ hat, rfl, _, rfl, m, t, sg, R, k, rfl, hM.same d7, by omega, hts, fun H8 s8 => ⟨_, rfl, _, rfl, kb, _, _, _, rfl, rfl, sq_same hkb (d7.trans s8), atI_nat (kAt_get (by omega)), rfl, _, rfl, ite_f (by simp) ?_⟩⟩
        have d8 := d7.trans s8
        refine ⟨_, rfl, m, dx, _, rfl, d8 _ _ hat, rfl, _, rfl, m, 0, t, sg, R, k, rfl, hM.same d8, hS.ne, by omega, hts, fun H9 s9 => ⟨_, rfl, rfl, _, rfl, ite_f (by simp) ?_⟩⟩
        have d9 := d8.trans s9
        refine ⟨_, rfl, _, rfl, m, dx, _, rfl, d9 _ _ hat, m, tx t, sg, R, k, rfl, hM.same d9, .inl ⟨t, rfl, by omega, fun H10 s10 => ⟨_, rfl, _, rfl, _, rfl, kb, _, _, _, rfl, rfl, sq_same hkb (d9.trans s10), atI_nat (kAt_get (by omega)), rfl, _, rfl, ite_f (by rw [all_in hts]; simp) ?_⟩⟩⟩
        have s610 := s7.trans (s8.trans (s9.trans s10))
        exact ⟨_, _, _, rfl, hp6.same s610, ho6.trans (Off.of s610)⟩
    · obtain ⟨x5, x6, x8, rfl, hp3, ho3⟩ := p
      exact q _ hp3 ho3
end
end Lw
namespace Lw
open PySem PySem.Spec PyProof.Rows L3
open L2 hiding del del_same del_ne
def lamQ : Str := ("_law_right" ++ ".<locals>." : Str) ++ "<lambda>"
abbrev TT (Pt : Addr) : List (Addr × Str) := [(Pt, lamQ)]
theorem sqL_ext {K : PySem.W.Frag} {H H' : Hp} {a : Addr} {xs : List V} (h : SqL K H a xs) (e : LamX.ExtN H H') : SqL K H' a xs := by
  rcases h with (h | ⟨o, h⟩) | h
  · exact .inl (.inl (e _ _ h (fun ps z => by cases z)))
  · exact .inl (.inr ⟨o, e _ _ h (fun ps z => by cases z)⟩)
  · exact .inr h
theorem sqT_ext {K : PySem.W.Frag} {H H' : Hp} {a : Addr} {xs : List V} (h : SqT K H a xs) (e : LamX.ExtN H H') : SqT K H' a xs := by
  rcases h with (h | ⟨o, h⟩) | h
  · exact .inl (.inl (e _ _ h (fun ps z => by cases z)))
  · exact .inl (.inr ⟨o, e _ _ h (fun ps z => by cases z)⟩)
  · exact .inr h
mutual
theorem dp_ext {K : PySem.W.Frag} {H H' : Hp} (e : LamX.ExtN H H') : ∀ {v : V} {d : PyData}, Dp K H v d → Dp K H' v d
  | _, _, .non => .non
  | _, _, .bl b => .bl b
  | _, _, .int i => .int i
  | _, _, .str x => .str x
  | _, _, .lst h a => .lst (sqL_ext h e) (dpAll_ext e a)
  | _, _, .tup h a => .tup (sqT_ext h e) (dpAll_ext e a)
theorem dpAll_ext {K : PySem.W.Frag} {H H' : Hp} (e : LamX.ExtN H H') : ∀ {vs : List V} {ds : List PyData}, DpAll K H vs ds → DpAll K H' vs ds
  | _, _, .nil => .nil
  | _, _, .cons a b => .cons (dp_ext e a) (dpAll_ext e b)
end
theorem Mach.ext {C : Addr} {K : PySem.W.Frag} {H H' : Hp} {a : Addr} {sg : List Nat} {R : List (List Nat)} {k : List Bool} (h : Mach C K H a sg R k) (e : LamX.ExtN H H') : Mach C K H' a sg R k := by
  obtain ⟨⟨dx, r, q, h1, h2, h3⟩, h4, h5⟩ := h
  exact ⟨⟨dx, r, q, e _ _ h1 (fun ps z => by cases z), dp_ext e h2, sqT_ext h3 e⟩, h4, h5⟩
/-- all but a and the tables stays -/
def OffN (a : Addr) (H H' : Hp) : Prop := ∀ b o, H b = some o → (∀ ps, o ≠ .tbl ps) → b ≠ a → H' b = some o
theorem OffN.trans {a : Addr} {H H1 H2 : Hp} (x : OffN a H H1) (y : OffN a H1 H2) : OffN a H H2 := fun b o e t n => y b o (x b o e t n) t n
theorem OffN.ext {a : Addr} {H H' : Hp} (x : LamX.ExtN H H') : OffN a H H' := fun b o e t _ => x b o e t
theorem OffN.off {a : Addr} {H H' : Hp} (x : Off a H H') : OffN a H H' := fun b o e _ n => x b o e n
theorem Pot.ext {a : Addr} {H H' : Hp} (h : Pot H a) (x : LamX.ExtN H H') : Pot H' a := by
  obtain ⟨u, v, e, r⟩ := h
  exact ⟨u, v, x _ _ e (fun ps z => by cases z), r⟩
theorem tabs_off {a : Addr} {Pt : Addr} {H H' : Hp} (t : LamX.Tabs (TT Pt) H) (hp : Pot H a) (o : Off a H H') : LamX.Tabs (TT Pt) H' := by
  obtain ⟨u, v, ea, _⟩ := hp
  intro p hpm
  obtain ⟨ps, h1, h2, h3⟩ := t p hpm
  refine ⟨ps, o _ _ h1 fun z => ?_, h2, fun pos cv hc => ?_⟩
  · rw [z, ea] at h1
    cases h1
  · obtain ⟨c, e1, e2⟩ := h3 pos cv hc
    refine ⟨c, e1, o _ _ e2 fun z => ?_⟩
    rw [z, ea] at e2
    cases e2
theorem tabs_lst {L Pt : Addr} {xs : List V} {H H' : Hp} (t : LamX.Tabs (TT Pt) H) (ea : H L = some (.lst xs)) (o : Off L H H') : LamX.Tabs (TT Pt) H' := by
  intro p hpm
  obtain ⟨ps, h1, h2, h3⟩ := t p hpm
  refine ⟨ps, o _ _ h1 fun z => ?_, h2, fun pos cv hc => ?_⟩
  · rw [z, ea] at h1
    cases h1
  · obtain ⟨c, e1, e2⟩ := h3 pos cv hc
    refine ⟨c, e1, o _ _ e2 fun z => ?_⟩
    rw [z, ea] at e2
    cases e2
/-- all but tables stays, and the tables are good -/
structure Fr (Pt : Addr) (H H' : Hp) : Prop where
  ext : LamX.ExtN H H'
  tabs : LamX.Tabs (TT Pt) H'
theorem Fr.same {Pt : Addr} {H H1 H2 : Hp} (x : Fr Pt H H1) (s : Same H1 H2) : Fr Pt H H2 := ⟨x.ext.trans (.of s), x.tabs.ext s⟩
theorem sq_offN {K : PySem.W.Frag} {a p : Addr} {xs : List V} {H H3 H' : Hp} (h : SqL K H a xs) (n : H p = none) (s : Same H H3) (o : OffN p H3 H') : SqL K H' a xs := by
  rcases h with (h | ⟨o', h⟩) | h
  · exact .inl (.inl (o _ _ (s _ _ h) (fun ps z => by cases z) (ne_of_none h n)))
  · exact .inl (.inr ⟨o', o _ _ (s _ _ h) (fun ps z => by cases z) (ne_of_none h n)⟩)
  · exact .inr h
theorem all_id_rep (n : Nat) : (List.replicate n true).all id = true := by
  induction n with
  | zero => rfl
  | succ n ih => rw [List.replicate_succ, List.all_cons, ih]; rfl
section
variable {w : World} {K : PySem.W.Frag} {mg : Str → Option Value} {base : Heap}
/-- the call raises for its first row -/
def TlRow (Ce : Addr) (tl : XK → Hp → VK → Prop) (H : Hp) : Prop := ∀ H1 (E : XK) Qv, Same H H1 → (∀ H2 d, Same H1 H2 → H2 d = some (.xd [("row", .int 1)]) → E (.ref Ce) (some d) H2) → tl E H1 Qv
def TLine (Ce : Addr) : (XK → Hp → VK → Prop) → Hp → VK → Prop := fun tl H Q => TlRow Ce tl H ∧ ∀ H' p, Same H H' → H' p = some (.lst [.int 1, .bl true]) → Q (.ref p) H'
theorem line_gives {X : Cx} {K : PySem.W.Frag} {mg : Str → Option Value} (T : All K mg) (hK : X.K = K) (hm : X.mg = mg) (hG : X.A.guards = some []) {q : Str} (cdv : Value) : GivesS 9 X ["_law_call", "_law_told", "e"] "_law_line" (defScope s_law_line) T.f_law_line cdv (defBody s_law_line) "_law_call" q (TLine T.C_InvalidRow) := by
  subst hK hm
  intro f c' s H Q tl hr act hc h
  obtain ⟨hT, q⟩ := h
  refine ⟨_, (pss_cons (ps_set (i := 1) sc_law_line.nd rfl (Or.inl rfl) (pe_lst (pa_cons pe_int (pa_cons pe_bl pa_nil))))
      (pss_cons (ps_try_as (i := 2) (Wout := fun _ _ _ _ => False) rfl rfl sc_law_line.nd rfl rfl ⟨rfl, by decide, Or.inl T.g_InvalidRow⟩ takes0
          (fun W pn xe tk _ => pss_one (ps_expr (act W pn xe _ _ tk)))
          (fun a oe cls d pn hz hf => pss_one (ps_set (i := 1) sc_law_line.nd rfl (Or.inl rfl) (pe_lst (pa_cons (pe_xf T.xf_InvalidRow T.nf_InvalidRow_row hz hf (pv 2)) (pa_cons (pe_and (pe_callB (call_isD T.xc_InvalidRow hz hf) (by rfl) T.b_isinstance boot_isinstance (pa_cons (pv 2) (pa_cons (pe_glob (v := .ref T.C_PartsError) rfl T.g_PartsError rfl) pa_nil))) (pe_one (pe_callB (call_isD T.xc_InvalidRow hz hf) (by rfl) T.b_isinstance boot_isinstance (pa_cons (pv 2) (pa_cons (pe_bltn (v := .ty "ValueError") (by rfl) T.b_ValueError (by decide +kernel) rfl) pa_nil))))) pa_nil))))))
      (pss_one (ps_ret (pv 1))))), ?_⟩
  refine ⟨by show 2 ≤ sizeLine; decide, fun p0 n0 => ?_⟩
  have s0 := same_upd (o := .lst [.int 0, .bl false]) n0
  generalize upd H p0 (.lst [.int 0, .bl false]) = H0 at *
  refine ⟨rfl, s0 _ _ hc, ?_⟩
  refine hT H0 _ _ s0 fun H2 d s2 hd => ?_
  refine ⟨true, T.te_InvalidRow, (fun _ aa ha => ?_), fun z => Bool.noConfusion z⟩
  refine ⟨_, rfl, rfl, rfl, d, _, _, rfl, hd, rfl, ?_⟩
  refine ⟨_, rfl, _, _, true, d, _, rfl, rfl, rfl, hd, (fun u ru => ru), T.is_InvalidRow_PartsError, _, rfl, ?_⟩
  refine ⟨_, rfl, _, _, true, d, _, rfl, rfl, rfl, hd, (fun u ru => ru), T.is_InvalidRow_ValueError, ?_⟩
  exact ⟨by show 2 ≤ sizeLine; decide, fun p1 n1 => ⟨_, rfl, q _ p1 (s0.trans (s2.trans (same_upd n1))) upd_same⟩⟩
end
end Lw
namespace Lw
open PySem PySem.Spec PyProof.Rows L3
open L2 hiding del del_same del_ne
theorem sg_lit {v : V} (h : v ∈ [V.str "ab", .str "ab", .str "abc", .str "a", .str "z", .str "qx", .str "gmy", .str "ot"]) : ∃ sg, v = tx sg ∧ Lets sg := by
  simp only [List.mem_cons, List.not_mem_nil, or_false] at h
  rcases h with rfl | rfl | rfl | rfl | rfl | rfl | rfl | rfl
  · exact ⟨[97, 98], rfl, by decide, by decide, by decide, by decide⟩
  · exact ⟨[97, 98], rfl, by decide, by decide, by decide, by decide⟩
  · exact ⟨[97, 98, 99], rfl, by decide, by decide, by decide, by decide⟩
  · exact ⟨[97], rfl, by decide, by decide, by decide, by decide⟩
  · exact ⟨[122], rfl, by decide, by decide, by decide, by decide⟩
  · exact ⟨[113, 120], rfl, by decide, by decide, by decide, by decide⟩
  · exact ⟨[103, 109, 121], rfl, by decide, by decide, by decide, by decide⟩
  · exact ⟨[111, 116], rfl, by decide, by decide, by decide, by decide⟩
theorem nl_del {H : Hp} {a : Addr} {xs : List V} (h : H a = some (.lst xs)) : NL H (del H a) := fun p o e n => by
  rw [del_ne (fun z => by rw [z, h] at e; exact n xs (Option.some.inj e).symm)]
  exact e
theorem Pot.nl {H : Hp} {a : Addr} (h : Pot H a) : NL H (del H a) := by
  obtain ⟨x, y, e, _⟩ := h
  exact nl_del e
theorem bytl_nV {b : Array UInt8} {l : List Nat} (h : BytL b l) : (bi b).map V.int = nV l := by
  have h : bi b = l.map fun c => ((c : Nat) : Int) := h
  rw [h, List.map_map]
  rfl
/-- what the texts and codes are, shown -/
def dTold (t : List Nat) : PyData := .list [.str (tS t), .str (tS t), .list (dN t), .list (dN t)]
theorem wt_told {t : List Nat} (ht : ∀ c ∈ t, c < 200) (hz : t.length ≤ 2009) : Wt (dTold t) 300000 3 := by
  have h1 : Wt (.str (tS t)) 62279 1 := (Wt.text (n := 2009) (fun c hc => by have := ht c hc; omega) hz).mono (by decide) (by decide)
  have h2 : Wt (.list (dN t)) 62279 1 := Wt.nats (n := 2009) (fun c hc => by have := ht c hc; omega) hz
  refine (Wt.list (w := 62279) (k := 1) (n := 4) (fun d hd => ?_) (by simp)).mono (by decide) (by decide)
  simp only [List.mem_cons, List.not_mem_nil, or_false] at hd
  rcases hd with rfl | rfl | rfl | rfl
  · exact h1
  · exact h1
  · exact h2
  · exact h2
/-- one kind the other way -/
def flip (k : List Bool) (p : Nat) : List Bool := k.set p (!M14.kAt k p)
theorem flip_get {k : List Bool} {p i : Nat} {b : Bool} (h : k[i]? = some b) : (flip k p)[i]? = some (if (V.int (i : Int)) = V.int (p : Int) then !b else b) := by
  unfold flip
  by_cases e : i = p
  · subst e
    rw [if_pos rfl, List.getElem?_set_self (List.getElem?_eq_some_iff.mp h).1]
    unfold M14.kAt
    rw [List.getD_eq_getElem?_getD, h]
    rfl
  · rw [if_neg (fun z => e (by have := V.int.inj z; omega)), List.getElem?_set_ne (Ne.symm e), h]
theorem flip_len (k : List Bool) (p : Nat) : (flip k p).length = k.length := by unfold flip; rw [List.length_set]
theorem flip_ne {k : List Bool} {p : Nat} (h : p < k.length) : flip k p ≠ k := fun e => by
  have h1 : (flip k p)[p]? = some (!M14.kAt k p) := by unfold flip; rw [List.getElem?_set_self h]
  have h2 : k[p]? = some (M14.kAt k p) := by
    unfold M14.kAt
    rw [List.getD_eq_getElem?_getD, List.getElem?_eq_getElem h]
    rfl
  rw [e, h2] at h1
  have h3 := Option.some.inj h1
  cases hb : M14.kAt k p <;> rw [hb] at h3 <;> cases h3
section
variable {w : World} {K : PySem.W.Frag} {mg : Str → Option Value} {base : Heap}
def spWhole (Pt : Addr) : Sp := fun vs H Q _ => ∃ a : Addr, vs = [.ref a] ∧ Pot H a ∧ LamX.Tabs (TT Pt) H ∧ ∀ H', OffN a H H' → LamX.Tabs (TT Pt) H' → Q (.bl true) H'
theorem ok_law_right (T : All K mg) (F : XF w T) {c Pt : Addr} (hcd : T.d_law_right.code = .ref c) (TB : LamX.TabB base mg c Pt) : FnOkG PW w K mg base CX0 14 T.f_law_right T.d_law_right ["_law_pot_here"] (spWhole Pt) := by
  refine okC T.law_right.F sc_law_right (fun vs H Q E h => ?_) (fun A outer s H vs Q E hr hG h => ?_)
  · obtain ⟨a, rfl, _⟩ := h
    rfl
  · obtain ⟨a, rfl, hp, hT, q⟩ := h
    refine ⟨_, pss_cons (ps_set (i := 1) sc_law_right.nd rfl (by first | exact Or.inl rfl | exact Or.inr rfl) (pe_call (ok_law_pick T) (hr.mono (by decide)) (by rfl) T.law_pick.g T.law_pick.F.kp T.law_pick.b .nil pass0 (pa_cons (pv 0) (pa_cons (pe_lst (pa_cons pe_str (pa_cons pe_str (pa_cons pe_str (pa_cons pe_str (pa_cons pe_str (pa_cons pe_str (pa_cons pe_str (pa_cons pe_str pa_nil))))))))) pa_nil))))
      (pss_cons (ps_asg (pe_call (ok_law_plan T) (hr.mono (by decide)) (by rfl) T.law_plan.g T.law_plan.F.kp T.law_plan.b .nil pass0 (pa_cons (pv 0) (pa_cons (pe_callB call_lenT (by rfl) T.b_len PySem.boot_len (pa_cons (pv 1) pa_nil)) pa_nil))) (pg_tup rfl (pgs_cons (pg_name (i := 2) sc_law_right.nd rfl (by first | exact Or.inl rfl | exact Or.inr rfl)) (pgs_cons (pg_name (i := 3) sc_law_right.nd rfl (by first | exact Or.inl rfl | exact Or.inr rfl)) pgs_nil))))
      (pss_cons (ps_set (i := 4) sc_law_right.nd rfl (by first | exact Or.inl rfl | exact Or.inr rfl) (pe_make ⟨T.mk_Machine, T.Machine_init.m.at_, T.Machine_init.m.fn, T.kp_Machine⟩ (ok_Machine_init T) (hr.mono (by decide)) (by rfl) T.g_Machine T.Machine_init.b .nil pass0 (pa_cons (pv 1) (pa_cons (pv 2) (pa_cons (pv 3) pa_nil)))))
      (pss_cons (ps_asg (pe_tup (pa_cons (pe_call (ok_law_text T) (hr.mono (by decide)) (by rfl) T.law_text.g T.law_text.F.kp T.law_text.b .nil pass0 (pa_cons (pv 1) (pa_cons (pv 2) (pa_cons (pv 3) pa_nil)))) (pa_cons (pe_callB (cr_reprOwn (ok_Machine_repr T) (hr.mono (by decide)) hG T.Machine_repr.b T.Machine_repr.m) (by rfl) T.b_repr (by decide +kernel) (pa_cons (pv 4) pa_nil)) pa_nil))) (pg_tup rfl (pgs_cons (pg_name (i := 5) sc_law_right.nd rfl (by first | exact Or.inl rfl | exact Or.inr rfl)) (pgs_cons (pg_name (i := 6) sc_law_right.nd rfl (by first | exact Or.inl rfl | exact Or.inr rfl)) pgs_nil))))
      (pss_cons (ps_setLc (i := 7) (own := [("_law_sign", 8)]) (g := gName 8) (tt := tYes) (by rfl) sc_law_right.nd rfl rfl (sw_true rfl rfl rfl (by decide +kernel)) (pi_str (pv 5))
          (blkOk_by (own := [("_law_sign", 8)]) (N := ["_law_pot_here", "_law_signs", "_law_lines_here", "_law_sorts", "_law_thing", "_law_due", "_law_seen", "_law_codes", "_law_sign", "_law_told", "_law_back", "_law_place", "_law_others", "_law_at", "_law_sort", "_law_near"]) (sc := defScope s_law_right) (by decide +kernel))
          (fun _ _ _ _ _ => pg_name (i := 8) sc_law_right.nd rfl (by first | exact Or.inl rfl | exact Or.inr rfl)) (fun _ _ _ _ _ => pts_nil)
          (fun _ _ _ _ _ => (pe_callB call_ord (by rfl) T.b_ord PyProof.Rows.boot_ord (pa_cons (pv 8) pa_nil))))
      (pss_cons (ps_set (i := 9) sc_law_right.nd rfl (by first | exact Or.inl rfl | exact Or.inr rfl) (pe_lst (pa_cons (pe_call (ok_text_of T F) (hr.mono (by decide)) (by rfl) T.text_of.g T.text_of.F.kp T.text_of.b .nil pass0 (pa_cons (pv 4) pa_nil)) (pa_cons (pe_callK0 (FnOkG.of (ok_text_of T F)) (hr.mono (by decide)) hG (by rfl) T.text_of.g T.text_of.F.kp (kb1 (n := "entry") T.text_of.F (fun _ _ _ _ _ _ _ => rfl)) pass0 (pk_cons (pv 4) pk_nil)) (pa_cons (pe_callTy (call_r1 (rl_listB rfl)) (by rfl) T.b_list (show bootBuiltins "list" = some (.type "list") by decide +kernel) (pa_cons (pe_call (ok_bytes_of T F) (hr.mono (by decide)) (by rfl) T.bytes_of.g T.bytes_of.F.kp T.bytes_of.b .nil pass0 (pa_cons (pv 4) pa_nil)) pa_nil)) (pa_cons (pe_callTy (call_r1 (rl_listB rfl)) (by rfl) T.b_list (show bootBuiltins "list" = some (.type "list") by decide +kernel) (pa_cons (pe_callK0 (FnOkG.of (ok_bytes_of T F)) (hr.mono (by decide)) hG (by rfl) T.bytes_of.g T.bytes_of.F.kp (kb1 (n := "entry") T.bytes_of.F (fun _ _ _ _ _ _ _ => rfl)) pass0 (pk_cons (pv 4) pk_nil)) pa_nil)) pa_nil))))))
      (pss_cons (ps_if (PW.pt (pw_or (pt_cmpR op_ne (pe_callB (call_reprD hr hG) (by rfl) T.b_repr (by decide +kernel) (pa_cons (pv 9) pa_nil)) (pe_callB (call_reprD hr hG) (by rfl) T.b_repr (by decide +kernel) (pa_cons (pe_lst (pa_cons (pv 5) (pa_cons (pv 5) (pa_cons (pv 7) (pa_cons (pv 7) pa_nil))))) pa_nil)) (nomark _)) (pw_or1 (pt_cmpR op_ne (pe_slice sl_tx (pe_callB call_reprB (by rfl) T.b_repr (by decide +kernel) (pa_cons (pe_call (ok_bytes_of T F) (hr.mono (by decide)) (by rfl) T.bytes_of.g T.bytes_of.F.kp T.bytes_of.b .nil pass0 (pa_cons (pv 4) pa_nil)) pa_nil)) po_none (po_some pe_int)) pe_str (nomark _))))) (pss_one ps_never) pss_nil)
      (pss_cons (ps_for PassesOwn.never rfl (pi_list (pe_lst (pa_cons (pe_call (ok_read_machine T F) (hr.mono (by decide)) (by rfl) T.read_machine.g T.read_machine.F.kp T.read_machine.b .nil pass0 (pa_cons (pv 5) pa_nil)) (pa_cons (pe_callK0 (FnOkG.of (ok_read_machine T F)) (hr.mono (by decide)) hG (by rfl) T.read_machine.g T.read_machine.F.kp (kb1 (n := "written") T.read_machine.F (fun _ _ _ _ _ _ _ => rfl)) pass0 (pk_cons (pv 5) pk_nil)) (pa_cons (pe_call (ok_read_machine T F) (hr.mono (by decide)) (by rfl) T.read_machine.g T.read_machine.F.kp T.read_machine.b .nil pass0 (pa_cons (pe_call (ok_text_of T F) (hr.mono (by decide)) (by rfl) T.text_of.g T.text_of.F.kp T.text_of.b .nil pass0 (pa_cons (pv 4) pa_nil)) pa_nil)) pa_nil))))) (pg_name (i := 10) sc_law_right.nd rfl (by first | exact Or.inl rfl | exact Or.inr rfl))
        (pss_cons (ps_if (PW.pt (pw_or (pt_cmpR (op_neOwn (FnOkG.of (ok_Machine_eq T)) (hr.mono (by decide)) hG T.Machine_eq.b T.Machine_eq.m (mro_obj T.mk_Machine) T.ne_Machine) (pv 10) (pv 4) (nomark _)) (pw_or (pt_cmpR op_ne (pe_callB (cr_reprOwn (ok_Machine_repr T) (hr.mono (by decide)) hG T.Machine_repr.b T.Machine_repr.m) (by rfl) T.b_repr (by decide +kernel) (pa_cons (pv 10) pa_nil)) (pv 6) (nomark _)) (pw_or (pt_cmpR op_ne (pe_call (ok_text_of T F) (hr.mono (by decide)) (by rfl) T.text_of.g T.text_of.F.kp T.text_of.b .nil pass0 (pa_cons (pv 10) pa_nil)) (pv 5) (nomark _)) (pw_or1 (pt_not (pt_val (pe_callB call_isi (by rfl) T.b_isinstance boot_isinstance (pa_cons (pv 10) (pa_cons (pe_glob (v := .ref T.C_Machine) rfl T.g_Machine rfl) pa_nil)))))))))) (pss_one ps_never) pss_nil)
      (pss_one (ps_if (pt_not (pt_val (pe_callG (ok_law_asked_right T) (hr.mono (by decide)) hG (by rfl) T.law_asked_right.g T.law_asked_right.F.kp T.law_asked_right.b pass0 (pa_cons (pv 0) (pa_cons (pv 10) (pa_cons (pv 1) (pa_cons (pv 2) (pa_cons (pv 3) pa_nil)))))))) (pss_one ps_never) pss_nil))))
      (pss_cons (ps_set (i := 11) sc_law_right.nd rfl (by first | exact Or.inl rfl | exact Or.inr rfl) (pe_call (ok_law_draw T) (hr.mono (by decide)) (by rfl) T.law_draw.g T.law_draw.F.kp T.law_draw.b .nil pass0 (pa_cons (pv 0) (pa_cons (pe_callB call_len_seq (by rfl) T.b_len PySem.boot_len (pa_cons (pv 2) pa_nil)) pa_nil))))
      (pss_cons (ps_setLc (i := 12) (own := [("_law_at", 13), ("_law_sort", 14)]) (tt := tYes) (by rfl) sc_law_right.nd rfl rfl (sw_true rfl rfl rfl (by decide +kernel)) (pi_enumS rfl T.b_enumerate (pa_cons (pv 3) pa_nil))
          (blkOk_by (own := [("_law_at", 13), ("_law_sort", 14)]) (N := ["_law_pot_here", "_law_signs", "_law_lines_here", "_law_sorts", "_law_thing", "_law_due", "_law_seen", "_law_codes", "_law_sign", "_law_told", "_law_back", "_law_place", "_law_others", "_law_at", "_law_sort", "_law_near"]) (sc := defScope s_law_right) (by decide +kernel))
          (fun _ _ _ _ _ => (pg_tupK (K := K) (n := 2) rfl rfl (pgs_cons (pg_name (i := 13) sc_law_right.nd rfl (Or.inl rfl)) (pgs_cons (pg_name (i := 14) sc_law_right.nd rfl (Or.inl rfl)) pgs_nil)) rfl)) (fun _ _ _ _ _ => pts_nil)
          (fun _ _ _ _ _ => (pe_ifExp (pt_cmpR op_eq (pv 13) (pv 11) (nomark _)) (pe_not (pv 14)) (pv 14))))
      (pss_cons (ps_set (i := 15) sc_law_right.nd rfl (by first | exact Or.inl rfl | exact Or.inr rfl) (pe_make ⟨T.mk_Machine, T.Machine_init.m.at_, T.Machine_init.m.fn, T.kp_Machine⟩ (ok_Machine_init T) (hr.mono (by decide)) (by rfl) T.g_Machine T.Machine_init.b .nil pass0 (pa_cons (pv 1) (pa_cons (pv 2) (pa_cons (pv 12) pa_nil)))))
      (pss_cons (ps_if (PW.pt (pw_or (pt_cmpR op_ne (pe_call (ok_text_of T F) (hr.mono (by decide)) (by rfl) T.text_of.g T.text_of.F.kp T.text_of.b .nil pass0 (pa_cons (pv 15) pa_nil)) (pe_call (ok_law_text T) (hr.mono (by decide)) (by rfl) T.law_text.g T.law_text.F.kp T.law_text.b .nil pass0 (pa_cons (pv 1) (pa_cons (pv 2) (pa_cons (pv 12) pa_nil)))) (nomark _)) (pw_or1 (pt_cmpR (op_eqOwn (FnOkG.of (ok_Machine_eq T)) (hr.mono (by decide)) hG T.Machine_eq.b T.Machine_eq.m) (pe_call (ok_read_machine T F) (hr.mono (by decide)) (by rfl) T.read_machine.g T.read_machine.F.kp T.read_machine.b .nil pass0 (pa_cons (pe_call (ok_text_of T F) (hr.mono (by decide)) (by rfl) T.text_of.g T.text_of.F.kp T.text_of.b .nil pass0 (pa_cons (pv 15) pa_nil)) pa_nil)) (pv 4) (nomark _))))) (pss_one ps_never) pss_nil)
      (pss_cons (ps_if (pt_cmpR op_ne (pe_call (ok_text_of T F) (hr.mono (by decide)) (by rfl) T.text_of.g T.text_of.F.kp T.text_of.b .nil pass0 (pa_cons (pe_un (un_inv (ok_Machine_invert T) (hr.mono (by decide)) T.Machine_invert.b T.Machine_invert.m) (pv 4)) pa_nil)) (pe_call (ok_law_text T) (hr.mono (by decide)) (by rfl) T.law_text.g T.law_text.F.kp T.law_text.b .nil pass0 (pa_cons (pv 1) (pa_cons (pv 2) (pa_cons (pe_lc (own := [("_law_sort", 14)]) (g := gName 14) (tt := tYes) rfl sc_law_right.nd (pi_list (pv 3))
          (blkOk_by (own := [("_law_sort", 14)]) (N := ["_law_pot_here", "_law_signs", "_law_lines_here", "_law_sorts", "_law_thing", "_law_due", "_law_seen", "_law_codes", "_law_sign", "_law_told", "_law_back", "_law_place", "_law_others", "_law_at", "_law_sort", "_law_near"]) (sc := defScope s_law_right) (by decide +kernel))
          (fun _ _ _ _ _ => pg_name (i := 14) sc_law_right.nd rfl (by first | exact Or.inl rfl | exact Or.inr rfl)) (fun _ _ _ _ _ => pts_nil)
          (fun _ _ _ _ _ => (pe_not (pv 14)))) pa_nil)))) (nomark _)) (pss_one ps_never) pss_nil)
      (pss_one (ps_ret (pe_and (pe_cmpR (op_eqD (u64 hr)) (pe_lamS (T := TT Pt) (k := 9) (by rfl) T.law_line.g T.law_line.F T.law_line.b sc_law_line rfl (by first | exact Or.inl rfl | exact Or.inr (Or.inl rfl)) (line_gives T rfl rfl hG) TB hcd (by exact List.mem_singleton.mpr rfl) (by intro p hp _; rw [List.mem_singleton.mp hp]; rfl) (hr.mono (by decide)) (LamX.lamS_by (sc := defScope s_law_right) (by decide +kernel)) rfl (fun _ _ _ _ _ => rfl)
        (fun A outer s H E f c2 hr => (pe_call (ok_read_sum T) (hr.mono (by decide)) (by rfl) T.read_sum.g T.read_sum.F.kp T.read_sum.b .nil (passes_call (takes_of rfl rfl rfl rfl) (fun _ _ _ _ h => h)) (pa_cons (pv 5) pa_nil)))) (pe_lst (pa_cons pe_int (pa_cons pe_bl pa_nil))) (by rfl))
        (pe_and (pe_cmpR op_eq (pe_callB (cr_reprOwn (ok_Machine_repr T) (hr.mono (by decide)) hG T.Machine_repr.b T.Machine_repr.m) (by rfl) T.b_repr (by decide +kernel) (pa_cons (pv 4) pa_nil)) (pv 6) (by rfl))
        (pe_one (pe_cmpR op_eq (pe_call (ok_text_of T F) (hr.mono (by decide)) (by rfl) T.text_of.g T.text_of.F.kp T.text_of.b .nil pass0 (pa_cons (pv 4) pa_nil)) (pv 5) (by rfl))))))))))))))))))), ?_⟩
    refine ⟨_, rfl, by show 8 ≤ sizeLine; decide, fun p np => ?_⟩
    have hpp := fun o => hp.up (o := o) (hp.ne np)
    refine ⟨a, _, rfl, hpp _, .inr ⟨p, _, rfl, (hp.ne np).symm, .inl (.inl upd_same), by simp, by show 8 ≤ 1000; decide, fun H1 vsg hvm hp1 ho1 => ?_⟩⟩
    obtain ⟨sg, rfl, hl⟩ := sg_lit hvm
    have f1 : Off a H H1 := (Off.of (same_upd np)).trans ho1
    clear ho1 hpp hvm
    have hsl := hl.few
    refine ⟨_, rfl, _, rfl, sg, rfl, sz (by omega), a, sg.length, rfl, hp1, hl.ne, hl.few, fun H2 t R k hGd hp2 ho2 ht => ?_⟩
    have f2 : Off a H H2 := f1.trans ho2
    obtain ⟨tp, va, vb, rfl, hST, hda, hdb⟩ := dp_sheet ht
    have d2 : Same (del H2 a) H2 := del_same _ _
    refine ⟨tp, _, rfl, sqT_same hST d2, rfl, _, _, rfl, _, _, rfl, rfl, ?_⟩
    have hO : M90.Ok sg R k := ⟨hl.az, hl.ne, hl.few, hGd.toSht⟩
    have hfew := hGd.few
    have hkin := hGd.kin
    have htz := M90.text_few hO
    have hta := M90.text_asc hO
    have htc : ∀ c ∈ M90.text sg R k, c < 200 := fun c hc => by
      have := hta c hc
      unfold M90.Sgn at this
      omega
    refine ⟨_, rfl, _, rfl, _, rfl, ?_⟩
    intro x dx0 nx ndx _
    refine make_ok hl (rw_dLR (Dp.same d2 hda)) (sq_kinds (Dp.same d2 hdb)) hGd nx ndx (fun H3 s3 hM3 => ?_)
    have hp3 := hp2.same s3
    have d3 := d2.trans s3
    have o3 : Same (del H2 a) (del H3 a) := del_mono a s3
    have hMd := hM3.nl hp3.nl
    have hda := Dp.same o3 hda
    have hdb := Dp.same o3 hdb
    have f3 : Off a H H3 := f2.trans (Off.of s3)
    clear hST ht s3 d2 d3 o3 nx ndx hp1 f1 hp2 ho2 f2
    refine ⟨_, rfl, _, rfl, _, rfl, sg, va, vb, R, k, rfl, Dp.same (del_same _ _) hda, Dp.same (del_same _ _) hdb, hO, fun H4 s4 => ?_⟩
    obtain ⟨dx, mr, mq, hat, _⟩ := id hM3.at_
    refine ⟨_, rfl, x, dx, _, rfl, s4 _ _ hat, x, sg, R, k, rfl, hM3.same s4, fun H5 s5 => ⟨_, rfl, by show 2 ≤ sizeLine; decide, fun t nt => ?_⟩⟩
    have s6 := same_upd (o := .tup [tx (M90.text sg R k), .str (spk sg R k)]) nt
    have hT6 := upd_same (H := H5) (a := t) (o := .tup [tx (M90.text sg R k), .str (spk sg R k)])
    generalize upd H5 t (.tup [tx (M90.text sg R k), .str (spk sg R k)]) = H6 at *
    refine ⟨t, _, rfl, .inl (.inl hT6), rfl, _, _, rfl, _, _, rfl, rfl, ?_⟩
    have s36 := s4.trans (s5.trans s6)
    refine ⟨_, rfl, tS (M90.text sg R k), rfl, fun L nL => ?_⟩
    refine lc_gen walk_tx (Same H6) (fun i acc => acc = nV ((M90.text sg R k).take i)) (sz (by omega)) (fun i acc e => by rw [e, nV_len, List.length_take]; omega) rfl (same_upd nL) (fun _ _ h => same_up h nL) (fun _ _ => trivial) (fun i x' H7 H8 acc C N hi rs hD ha y cc nn => ?_) (fun H7 ys rs hL7 ha => ?_)
    · obtain ⟨rfl, ch, hch, rfl⟩ := y
      refine ⟨rfl, yes_te ⟨_, rfl, _, rfl, rfl, cc _ _ rs hD ?_⟩⟩
      rw [ha, List.take_add_one, hch]
      exact (nV_snoc _ _).symm
    rw [List.take_length] at ha
    subst ha
    have s37 := s36.trans rs
    have hM7 := hM3.same s37
    refine ⟨_, rfl, x, sg, R, k, rfl, hM7, fun H8 s8 => ?_⟩
    refine ⟨_, rfl, x, sg, R, k, rfl, hM7.same s8, fun H9 s9 => ?_⟩
    have s79 := s8.trans s9
    refine ⟨_, rfl, x, sg, R, k, rfl, hM7.same s79, fun H10 b1 s10 hb1 hz1 _ => ⟨b1, rfl, sz (by omega), fun q1 nq1 => ?_⟩⟩
    rw [bytl_nV hb1]
    have s11 := same_upd (o := .lst (nV (M90.text sg R k))) nq1
    have hq1 := upd_same (H := H10) (a := q1) (o := .lst (nV (M90.text sg R k)))
    generalize upd H10 q1 (.lst (nV (M90.text sg R k))) = H11 at *
    have s7b := s79.trans (s10.trans s11)
    refine ⟨_, rfl, x, sg, R, k, rfl, hM7.same s7b, fun H12 b2 s12 hb2 hz2 _ => ⟨b2, rfl, sz (by omega), fun q2 nq2 => ?_⟩⟩
    rw [bytl_nV hb2]
    have s13 := same_upd (o := .lst (nV (M90.text sg R k))) nq2
    have hq2 := upd_same (H := H12) (a := q2) (o := .lst (nV (M90.text sg R k)))
    generalize upd H12 q2 (.lst (nV (M90.text sg R k))) = H13 at *
    refine ⟨by show 4 ≤ sizeLine; decide, fun TL nTL => ?_⟩
    have s14 := same_upd (o := .lst [tx (M90.text sg R k), tx (M90.text sg R k), .ref q1, .ref q2]) nTL
    have hTL := upd_same (H := H13) (a := TL) (o := .lst [tx (M90.text sg R k), tx (M90.text sg R k), .ref q1, .ref q2])
    generalize upd H13 TL (.lst [tx (M90.text sg R k), tx (M90.text sg R k), .ref q1, .ref q2]) = H14 at *
    have s7d := s7b.trans (s12.trans (s13.trans s14))
    have hD1 : Dp K H14 (.ref TL) (dTold (M90.text sg R k)) := .lst (.inl (.inl hTL)) (.cons (.str _) (.cons (.str _) (.cons (.lst (.inl (.inl (s14 _ _ (s13 _ _ (s12 _ _ hq1))))) (dpAll_nV _)) (.cons (.lst (.inl (.inl (s14 _ _ hq2))) (dpAll_nV _)) .nil))))
    have wT := wt_told htc htz
    have shT := wT.shw (by decide) (by decide)
    refine ⟨_, rfl, .ref TL, dTold (M90.text sg R k), rfl, hD1, shT.s, shT.z, shT.p, ?_⟩
    have hL14 := s7d _ _ hL7
    refine ⟨_, rfl, _, rfl, _, rfl, _, rfl, by show 4 ≤ sizeLine; decide, fun TM nTM => ?_⟩
    have s15 := same_upd (o := .lst [tx (M90.text sg R k), tx (M90.text sg R k), .ref L, .ref L]) nTM
    have hTM := upd_same (H := H14) (a := TM) (o := .lst [tx (M90.text sg R k), tx (M90.text sg R k), .ref L, .ref L])
    generalize upd H14 TM (.lst [tx (M90.text sg R k), tx (M90.text sg R k), .ref L, .ref L]) = H15 at *
    have hL15 := s15 _ _ hL14
    have hD2 : Dp K H15 (.ref TM) (dTold (M90.text sg R k)) := .lst (.inl (.inl hTM)) (.cons (.str _) (.cons (.str _) (.cons (.lst (.inl (.inl hL15)) (dpAll_nV _)) (.cons (.lst (.inl (.inl hL15)) (dpAll_nV _)) .nil))))
    refine ⟨.ref TM, dTold (M90.text sg R k), rfl, hD2, shT.s, shT.z, shT.p, ?_⟩
    refine ⟨rfl, _, rfl, ite_f (by simp) ?_⟩
    have s715 := s7d.trans s15
    refine ⟨_, rfl, x, sg, R, k, rfl, hM7.same s715, fun H16 b3 s16 hb3 hz3 hc3 => ⟨b3, rfl, by omega, hc3, fun l hl3 => ?_⟩⟩
    refine ⟨2, rfl, ?_⟩
    refine ⟨98 :: 39 :: l, rfl, by rw [sizeLine_eq]; show l.length + 1 + 1 ≤ _; omega, .inl ⟨rfl, 2, rfl, ?_⟩⟩
    refine ⟨rfl, _, rfl, ite_f (by rw [show decide (tx ((98 :: 39 :: l).take 2) = V.str "b'") = true from decide_eq_true rfl]; rfl) ?_⟩
    have s316 := s37.trans (s715.trans s16)
    have hMd16 := hMd.same (del_mono a s316)
    have hda16 := Dp.same (del_mono a s316) hda
    have hdb16 := Dp.same (del_mono a s316) hdb
    have hp16 := hp3.same s316
    have f16 : Off a H H16 := f3.trans (Off.of s316)
    clear hD1 hD2 shT wT hL14 hL15 hTL hTM hq1 hq2 hb1 hb2 hb3 hz1 hz2 hz3 hc3 hL7 hM7 hda hdb hMd hp3 f3 hM3 hat
    clear s36 s37 s715 s7d s7b s79 s8 s9 s10 s11 s12 s13 s14 s15 s16 rs s4 s5 s6 s316 nt nL nq1 nq2 nTL nTM hT6
    have hM16 := hMd16.same (del_same _ _)
    refine ⟨_, rfl, sg, R, k, rfl, hl, hGd, fun H17 m1 s17 n1 hm1 => ?_⟩
    refine ⟨_, rfl, sg, R, k, rfl, hl, hGd, fun H18 m2 s18 n2 hm2 => ?_⟩
    refine ⟨_, rfl, x, sg, R, k, rfl, hM16.same (s17.trans s18), fun H19 s19 => ?_⟩
    refine ⟨sg, R, k, rfl, hl, hGd, fun H20 m3 s20 n3 hm3 => ⟨by show 3 ≤ sizeLine; decide, fun BL nBL => ?_⟩⟩
    have s21 := same_upd (o := .lst [.ref m1, .ref m2, .ref m3]) nBL
    have hBL := upd_same (H := H20) (a := BL) (o := .lst [.ref m1, .ref m2, .ref m3])
    generalize upd H20 BL (.lst [.ref m1, .ref m2, .ref m3]) = H21 at *
    have s1621 := s17.trans (s18.trans (s19.trans (s20.trans s21)))
    have hp21 := hp16.same s1621
    have naB : BL ≠ a := fun e => by
      obtain ⟨u, v, e2, _⟩ := hp16.same (s17.trans (s18.trans (s19.trans s20)))
      rw [e, e2] at nBL
      cases nBL
    have hms : ∀ v ∈ [V.ref m1, V.ref m2, V.ref m3], ∃ m, v = .ref m ∧ Mach T.C_Machine K (del H21 a) m sg R k := fun v hv => by
      simp only [List.mem_cons, List.not_mem_nil, or_false] at hv
      rcases hv with rfl | rfl | rfl
      · exact ⟨m1, rfl, (hm1.same (s18.trans (s19.trans (s20.trans s21)))).nl hp21.nl⟩
      · exact ⟨m2, rfl, (hm2.same (s19.trans (s20.trans s21))).nl hp21.nl⟩
      · exact ⟨m3, rfl, (hm3.same s21).nl hp21.nl⟩
    have hMd21 := hMd16.same (del_mono a s1621)
    have hda21 := Dp.same (del_mono a s1621) hda16
    have hdb21 := Dp.same (del_mono a s1621) hdb16
    have f21 : Off a H H21 := f16.trans (Off.of s1621)
    clear hm1 hm2 hm3 s17 s18 s19 s20 s21 s1621 n1 n2 n3 nBL hMd16 hda16 hdb16 hM16 hp16 f16
    refine ⟨BL, rfl, ⟨_, .inl (.inl hBL)⟩, ?_⟩
    refine for_it (walk_list (xs := [.ref m1, .ref m2, .ref m3])) (fun i σ H' => ∃ x10, σ = [some (.ref a), some (tx sg), some va, some vb, some (.ref x), some (tx (M90.text sg R k)), some (.str (spk sg R k)), some (.ref L), none, some (.ref TL), x10, none, none, none, none, none] ∧ Pot H' a ∧ Off a H21 H') ⟨none, rfl, hp21, Off.refl _ _⟩ (fun i σ H' _ p => by obtain ⟨_, _, _, o⟩ := p; exact .inl (.inl (o _ _ hBL naB))) (fun i v σ H22 H23 hi p y => ?_) (fun σ H22 p => ?_)
    · obtain ⟨x10, rfl, hp22, o22⟩ := p
      obtain ⟨rfl, y⟩ := y
      obtain ⟨m, rfl, hmm⟩ := hms v (List.mem_of_getElem? y)
      have e22 := off_del o22
      have hmd := hmm.same e22
      have hM := hmd.same (del_same _ _)
      have hX := (hMd21.same e22).same (del_same _ _)
      obtain ⟨dxm, _, _, hatm, _⟩ := id hM.at_
      refine ⟨_, rfl, _, rfl, m, dxm, _, .ref T.C_Machine, rfl, hatm, ty_mach T hX, first_own, m, .ref x, sg, R, k, rfl, hM, .inl ⟨x, sg, R, k, rfl, hX, ⟨_, rfl, _, rfl, ite_f (by simp) ?_⟩⟩⟩
      refine ⟨_, rfl, m, dxm, _, rfl, hatm, m, sg, R, k, rfl, hM, fun H24 s24 => ⟨_, rfl, _, rfl, rfl, _, rfl, ite_f (by simp) ?_⟩⟩
      refine ⟨_, rfl, m, sg, R, k, rfl, hM.same s24, fun H25 s25 => ⟨_, rfl, rfl, _, rfl, ite_f (by simp) ?_⟩⟩
      have s2225 := s24.trans s25
      have e25 := del_mono a s2225
      refine ⟨_, rfl, _, .ref T.C_Machine, .ref T.C_Machine, .ref T.C_Machine, true, rfl, .own _, ty_mach T (hM.same s2225), kit_own T, true, rfl, iteF ?_⟩
      exact ⟨_, rfl, _, rfl, _, rfl, _, rfl, _, rfl, a, m, sg, va, vb, R, k, rfl, hp22.same s2225, hmd.same e25, Dp.same (e22.trans e25) hda21, Dp.same (e22.trans e25) hdb21, fun H26 hp26 o26 => ⟨true, rfl, iteF ⟨_, rfl, hp26, o22.trans ((Off.of s2225).trans o26)⟩⟩⟩
    · obtain ⟨x10, rfl, hp22, o22⟩ := p
      have e22 := off_del o22
      have hX := hMd21.same e22
      have hda := Dp.same e22 hda21
      have hdb := Dp.same e22 hdb21
      have f22 := f21.trans o22
      clear hms hBL naB hda21 hdb21 hMd21 f21 hp21 e22 o22
      obtain ⟨vra, xs, rfl, hSv, hxl, hrow⟩ := dLR_row hda
      obtain ⟨vrb, rfl, hkb⟩ := sqL_kinds hdb
      refine ⟨_, rfl, _, rfl, vra, xs, rfl, .inl (sq_same hSv (del_same _ _)), a, R.length, by rw [hxl]; rfl, hp22, hGd.ne, by omega, fun H23 pl hpl hp23 o23 => ?_⟩
      have e23 := off_del o23
      have hX23 := hX.same e23
      have hda23 := Dp.same e23 hda
      have hdb23 := Dp.same e23 hdb
      have hkb23 := sq_same hkb (e23.trans (del_same _ _))
      have f23 := f22.trans o23
      clear hX hda hdb hSv hrow hkb f22 hp22 o23 e23
      refine ⟨_, rfl, .L vrb, _, rfl, hkb23, fun L2 nL2 => ?_⟩
      refine lc_gen (walk_enumS (y := .L vrb) (xs := k.map V.bl)) (Same H23) (fun i acc => acc = ((flip k pl).take i).map V.bl) (sz (by rw [List.length_map]; omega)) (fun i acc e => by rw [e, List.length_map, List.length_take]; omega) rfl (same_upd nL2) (fun _ _ h => same_up h nL2) (fun _ h => sq_same hkb23 h) (fun i v H24 H25 acc C N hi rs hD ha yy cc nn => ?_) (fun H24 ys rs hL2 ha => ?_)
      · obtain ⟨Tp, v1, v2, rfl, nT, rfl, e1, e2⟩ := yy
        cases e1
        have e2 : (k.map V.bl)[i]? = some v2 := e2
        rw [List.getElem?_map] at e2
        obtain ⟨b, hb, rfl⟩ := Option.map_eq_some_iff.mp e2
        have nTD : L2 ≠ Tp := ne_of_none hD nT
        have rs2 := same_up (o := .tup [.int (i : Nat), .bl b]) rs (rs.free nT)
        have hD2 : (upd H24 Tp (.tup [.int (i : Nat), .bl b])) L2 = some (.lst acc) := by rw [upd_ne nTD]; exact hD
        have hTp := upd_same (H := H24) (a := Tp) (o := .tup [.int (i : Nat), .bl b])
        generalize upd H24 Tp (.tup [.int (i : Nat), .bl b]) = H7 at *
        have ef := flip_get (p := pl) hb
        have et : ((flip k pl).take (i + 1)).map V.bl = ((flip k pl).take i).map V.bl ++ [.bl (if (V.int (i : Int)) = V.int (pl : Int) then !b else b)] := by
          rw [List.take_add_one, ef, List.map_append]
          rfl
        refine ⟨Tp, _, rfl, .inl (.inl hTp), rfl, _, _, rfl, _, _, rfl, rfl, rfl, yes_te ?_⟩
        refine ⟨_, rfl, _, rfl, rfl, _, rfl, ite2 (fun e => ?_) (fun e => ?_)⟩
        · refine ⟨_, rfl, _, rfl, cc _ _ rs2 hD2 ?_⟩
          rw [et, if_pos (of_decide_eq_true e), ha]
        · refine ⟨_, rfl, cc _ _ rs2 hD2 ?_⟩
          rw [et, if_neg (of_decide_eq_false (by simpa using e)), ha]
      rw [List.length_map, ← flip_len k pl, List.take_length] at ha
      subst ha
      have e24 := del_mono a rs
      have d24 : Same (del H24 a) H24 := del_same _ _
      have hp24 := hp23.same rs
      have hX24 := hX23.same e24
      have hda24 := Dp.same e24 hda23
      have hkb24 := sq_same hkb23 rs
      have f24 := f23.trans (Off.of rs)
      have hGf : M14.Good sg.length R (flip k pl) := good_k hGd (flip_len k pl)
      have hOf : M90.Ok sg R (flip k pl) := ⟨hl.az, hl.ne, hl.few, hGf.toSht⟩
      have hnf := flip_ne (k := k) (p := pl) (by omega)
      generalize flip k pl = kf at *
      clear hX23 hda23 hdb23 hkb23 f23 hp23 rs
      refine ⟨_, rfl, _, rfl, _, rfl, ?_⟩
      intro y dy0 ny ndy _
      refine make_ok hl (rw_dLR (Dp.same d24 hda24)) (sq_list (.inl (.inl hL2))) hGf ny ndy (fun H25 s25 hN => ?_)
      have hX25 := (hX24.same d24).same s25
      refine ⟨_, rfl, y, sg, R, kf, rfl, hN, fun H26 s26 => ?_⟩
      have s2426 := s25.trans s26
      refine ⟨_, rfl, _, rfl, _, rfl, sg, .ref vra, .ref L2, R, kf, rfl, Dp.same (d24.trans s2426) hda24, .lst (.inl (.inl (s2426 _ _ hL2))) (dp_bools _), hOf, fun H27 s27 => ⟨rfl, _, rfl, ite_f (by simp) ?_⟩⟩
      have s2527 := s26.trans s27
      refine ⟨_, rfl, y, sg, R, kf, rfl, hN.same s2527, fun H28 s28 => ?_⟩
      refine ⟨sg, R, kf, rfl, hl, hGf, fun H29 z s29 nz hZ => ?_⟩
      have s2529 := s2527.trans (s28.trans s29)
      have hX29 := hX25.same s2529
      obtain ⟨dz, _, _, hatz, _⟩ := id hZ.at_
      refine ⟨_, rfl, z, dz, _, .ref T.C_Machine, rfl, hatz, ty_mach T hX29, first_own, z, .ref x, sg, R, kf, rfl, hZ, .inl ⟨x, sg, R, k, rfl, hX29, ⟨_, rfl, _, rfl, ite_f (by rw [decide_eq_false hnf]; simp) ?_⟩⟩⟩
      obtain ⟨dx, _, _, hatx, _⟩ := id hX29.at_
      refine ⟨_, rfl, x, dx, _, rfl, hatx, x, sg, R, k, rfl, hX29, fun H30 u s30 nu hU => ?_⟩
      refine ⟨u, sg, R, k.map not, rfl, hU, fun H31 s31 => ?_⟩
      have s2431 := s25.trans (s2529.trans (s30.trans s31))
      have hkb31 := sq_same hkb24 s2431
      refine ⟨_, rfl, _, rfl, _, rfl, vrb, rfl, ⟨_, hkb31⟩, fun L3 nL3 => ?_⟩
      refine lc_gen (walk_list (xs := k.map V.bl)) (Same H31) (fun i acc => acc = ((k.take i).map (!·)).map V.bl) (sz (by rw [List.length_map]; omega)) (fun i acc e => by rw [e, List.length_map, List.length_map, List.length_take]; omega) rfl (same_upd nL3) (fun _ _ h => same_up h nL3) (fun _ h => sq_same hkb31 h) (fun i v H32 H33 acc C N hi rs hD ha yy cc nn => ?_) (fun H32 ys rs hL3 ha => ?_)
      · obtain ⟨rfl, yy⟩ := yy
        rw [List.getElem?_map] at yy
        obtain ⟨b, hb, rfl⟩ := Option.map_eq_some_iff.mp yy
        refine ⟨rfl, yes_te ⟨_, rfl, _, rfl, cc _ _ rs hD ?_⟩⟩
        rw [ha, List.take_add_one, hb, List.map_append, List.map_append]
        rfl
      rw [List.length_map, List.take_length] at ha
      subst ha
      have s2432 := s2431.trans rs
      have hOn : M90.Ok sg R (k.map not) := ⟨hl.az, hl.ne, hl.few, hU.good.toSht⟩
      refine ⟨sg, .ref vra, .ref L3, R, k.map not, rfl, Dp.same (d24.trans s2432) hda24, .lst (.inl (.inl hL3)) (dp_bools _), hOn, fun H33 s33 => ⟨rfl, _, rfl, ite_f (by simp) ?_⟩⟩
      have s2433 := s2432.trans s33
      have hX33 := (hX24.same d24).same s2433
      have f33 := f24.trans (Off.of (a := a) s2433)
      have hT33 := tabs_off hT hp f33
      clear hX24 hX25 hX29 hZ hN hU s2432 s2431 s2529 s2527 s2426 s25 s26 s27 s28 s29 s30 s31 rs s33 hL3 hL2 hkb31 hkb24 hda24 hatz hatx nz nu nL3
      refine next_to ?_
      refine ⟨hT33, fun H34 e34 t34 => ⟨fun H35 E' Qv s35 qE => ⟨_, rfl, sg, R, k, rfl, hO, fun H36 d s36 hd => qE H36 d s36 hd⟩, fun H35 pp s35 hpp => ⟨by show 2 ≤ sizeLine; decide, fun p2 n2 => ?_⟩⟩⟩
      have s36 := same_upd (o := .lst [.int 1, .bl true]) n2
      have h2 := upd_same (H := H35) (a := p2) (o := .lst [.int 1, .bl true])
      generalize upd H35 p2 (.lst [.int 1, .bl true]) = H36 at *
      have hX36 := (hX33.ext e34).same (s35.trans s36)
      have dd : ∀ {r : Addr}, H36 r = some (.lst [.int 1, .bl true]) → Dp K H36 (.ref r) (.list [.int 1, .bool true]) := fun h => .lst (.inl (.inl h)) (.cons (.int _) (.cons (.bl _) .nil))
      refine ⟨.list [.int 1, .bool true], .list [.int 1, .bool true], dd (s36 _ _ hpp), dd h2, by decide +kernel, by decide +kernel, _, rfl, ite_t (by decide +kernel) ?_⟩
      obtain ⟨dx, _, _, hatx, _⟩ := id hX36.at_
      refine ⟨_, rfl, x, dx, _, rfl, hatx, x, sg, R, k, rfl, hX36, fun H37 s37 => ⟨_, rfl, _, rfl, rfl, _, rfl, ite_t (by simp) ?_⟩⟩
      refine ⟨_, rfl, x, sg, R, k, rfl, hX36.same s37, fun H38 s38 => ⟨_, rfl, rfl, ?_⟩⟩
      have sL := s35.trans (s36.trans (s37.trans s38))
      have e : decide (tx (M90.text sg R k) = tx (M90.text sg R k)) = true := by simp
      rw [e]
      exact q _ (((OffN.off f33).trans (OffN.ext e34)).trans (OffN.off (Off.of sL))) (t34.ext sL)
end
end Lw
namespace Lw
open PySem PySem.Spec PyProof.Rows L3
open L2 hiding del del_same del_ne
section
variable {w : World} {K : PySem.W.Frag} {mg : Str → Option Value} {base : Heap}
def spLaw (K : PySem.W.Frag) (Pt : Addr) : Sp := fun vs H Q _ => ∃ (a : Addr) (ns : List Int), vs = [.ref a] ∧ SqL K H a (ns.map V.int) ∧ LamX.Tabs (TT Pt) H ∧ ∀ H', Q (.bl true) H'
theorem ok_law (T : All K mg) (F : XF w T) {c Pt : Addr} (hcd : T.d_law_right.code = .ref c) (TB : LamX.TabB base mg c Pt) : FnOkG PW w K mg base CX0 15 T.f_law T.d_law ["_law_script"] (spLaw K Pt) := by
  refine okG T.law.F sc_law (fun vs H Q E h => ?_) (fun cdv A outer s H vs Q E hr hG h => ?_)
  · obtain ⟨a, ns, rfl, _⟩ := h
    rfl
  · obtain ⟨a, ns, rfl, hS, hT, q⟩ := h
    refine ⟨_, pss_one (ps_ret (pe_callB (cr_all rfl) (by rfl) T.b_all PyProof.Rows.boot_all (pa_cons (pe_lc (own := [("_law_k", 1)]) (g := gName 1) (tt := tYes) rfl sc_law.nd (pi_range1 rfl T.b_range (pa_cons (pe_callB (call_max2 rfl) (by rfl) T.b_max PyProof.Rows.boot_max (pa_cons pe_int (pa_cons (pe_callB (call_min2 rfl) (by rfl) T.b_min PyProof.Rows.boot_min (pa_cons (pe_callB call_len_seq (by rfl) T.b_len PySem.boot_len (pa_cons (pv 0) pa_nil)) (pa_cons pe_int pa_nil))) pa_nil))) pa_nil))
          (blkOk_by (own := [("_law_k", 1)]) (N := ["_law_script", "_law_k"]) (sc := defScope s_law) (by decide +kernel))
          (fun _ _ _ _ _ => pg_name (i := 1) sc_law.nd rfl (by first | exact Or.inl rfl | exact Or.inr rfl)) (fun _ _ _ _ _ => pts_nil)
          (fun _ _ _ _ _ => (pe_callG (ok_law_right T F hcd TB) (hr.mono (by decide)) hG (by rfl) T.law_right.g T.law_right.F.kp T.law_right.b pass0 (pa_cons (pe_call (ok_law_pot T) (hr.mono (by decide)) (by rfl) T.law_pot.g T.law_pot.F.kp T.law_pot.b .nil pass0 (pa_cons (pv 0) (pa_cons (pv 1) pa_nil))) pa_nil)))) pa_nil))), ?_⟩
    refine ⟨_, rfl, a, _, rfl, .inl hS, _, _, rfl, _, _, rfl, ?_⟩
    refine ⟨_, rfl, ?_, ?_, fun D nD => ?_⟩
    · split <;> split <;> omega
    · split <;> split <;> omega
    have hn : ((if (if 3 < ((ns.map V.int).length : Int) then 3 else ((ns.map V.int).length : Int)) > 1 then (if 3 < ((ns.map V.int).length : Int) then 3 else ((ns.map V.int).length : Int)) else 1) : Int).toNat ≤ 4 := by
      split <;> split <;> omega
    have hAD : (∀ H', SqL K H' a (ns.map V.int)) ∨ a ≠ D := by
      rcases hS with (h | ⟨o', h⟩) | h
      · exact .inr (ne_of_none h nD)
      · exact .inr (ne_of_none h nD)
      · exact .inl fun H' => .inr h
    refine lc_gen2 walk_range (fun H' => LamX.Tabs (TT Pt) H' ∧ SqL K H' a (ns.map V.int)) (fun i acc => acc = List.replicate i (.bl true)) ?_ (fun i acc e => by rw [e]; simp) rfl
      ⟨hT.ext (same_upd nD), sq_new hS nD⟩ (fun H' acc acc' hD r => ⟨tabs_lst r.1 hD (Off.at (Off.refl _ _)), hAD.elim (fun h => h _) (fun n => sq_put r.2 n)⟩) (fun _ _ => trivial) (fun i x H7 H8 acc C N hi r hD ha y c n => ?_) (fun H7 xs r hD ha => ?_)
    · rw [sizeLine_eq]
      exact Nat.le_trans hn (by decide)
    · obtain ⟨rfl, rfl⟩ := y
      have hi4 : i < 4 := Nat.lt_of_lt_of_le hi hn
      refine ⟨rfl, yes_te ?_⟩
      refine ⟨_, rfl, _, rfl, a, ns, i, congrArg (fun z => [V.ref a, V.int z]) (Int.zero_add _), r.2, by omega, fun H9 p s9 n9 hp9 => ?_⟩
      refine ⟨p, rfl, hp9, r.1.ext s9, fun H10 o10 t10 => ?_⟩
      refine c _ _ ⟨t10, sq_offN r.2 n9 s9 o10⟩ (o10 _ _ (s9 _ _ hD) (fun ps z => by cases z) (ne_of_none hD n9)) ?_
      rw [ha, List.replicate_succ']
    · subst ha
      refine ⟨D, List.replicate _ true, rfl, .inl (.inl (by rw [hD, List.map_replicate])), ?_⟩
      rw [all_id_rep]
      exact q _
theorem fin {w : World} {K : PySem.W.Frag} {mg mb : Str → Option Value} {fa fl a c Pt : Addr} {s₁ : Shared} {vs : List Value} {ns : List Int}
    (KX : K.In s₁.heap) (hns : s₁.heap.Ns mainGlobals mg) (hb : s₁.heap.Ns builtinsNs mb) (hbb : ∀ x : Str, x ≠ "__name__" → mb x = bootBuiltins x) (hlim : s₁.heap.NoLimit) (hg : s₁.gens = #[])
    (hT : s₁.heap.get? Pt = some (PySem.W.tabObj #[])) (nT : K.lookup Pt = none) (hC : PySem.W.codeHdIn K c Pt = true)
    (hbm : ∃ (bm : Addr) (ob : Obj), mg "__builtins__" = some (.ref bm) ∧ bm ≠ builtinsNs ∧ s₁.heap.get? bm = some ob ∧ ob.cls = .type "module" ∧ ob.dict = some builtinsNs ∧ ob.data = .plain)
    (ha : s₁.heap.get? a = some { cls := .type "list", data := .seq vs.toArray }) (hi : IntsAre vs ns) (hl : ns.length ≤ sizeLine) (hmg : mg "law" = some (.ref fa))
    (hall : ∃ T : All K mg, T.f_law = fl ∧ T.d_law_right.code = .ref c ∧ XF w T) :
    codeAny (model PW w) callerA (.call (.ref fa) ⟨[.ref a], []⟩) (fun r s' => r = .ok (.ret (.bool true)) ∧ OldK s₁.heap s'.heap ∧ s'.os = s₁.os ∧ AllBare s'.gens) s₁ := by
  obtain ⟨T, _, hcd, F⟩ := hall
  have e : T.f_law = fa := by
    have h := T.law.g
    rw [hmg] at h
    exact (Value.ref.inj (Option.some.inj h)).symm
  rw [← e]
  refine law_callG (cs := [(c, Pt)]) (k := 15) (sp := spLaw K Pt) KX hns hb hbb hlim hg (fun p hp => ?_) (fun p hp => ?_) (fun p hp => ?_) hbm ha hi hl ⟨rfl, by decide, by decide⟩ (fun base hK hM TB => ok_law T F hcd (TB (c, Pt) (List.mem_singleton.mpr rfl))) T.law.b (fun H hH hS => ?_)
  · rw [List.mem_singleton.mp hp]; exact hT
  · rw [List.mem_singleton.mp hp]; exact nT
  · rw [List.mem_singleton.mp hp]; exact PySem.W.codeHd_of_K KX hC
  · refine ⟨a, ns, rfl, hS, fun p hp => ?_, fun H' => rfl⟩
    rw [List.mem_singleton.mp hp]
    exact LamX.TabS.nil (hH (c, Pt) (List.mem_singleton.mpr rfl))
end
end Lw
namespace Lw
open PySem PySem.Spec PyProof.Rows L2 L3
theorem all_mk {K : PySem.W.Frag} {h : Heap} {mg : Str → Option Value} (X : K.In h) (G : h.Ns mainGlobals mg)
    {f_is_integer : Addr} {oc_is_integer kV_is_integer dc_is_integer pm_is_integer cd_is_integer ct_is_integer : Value} {od_is_integer an_is_integer : Option Addr} {sl_is_integer : Array (Option Value)}
    (a_is_integer : PySem.W.nsIn K mainGlobals "is_integer" = some (some (.ref f_is_integer))) (l_is_integer : K.lookup f_is_integer = some ⟨oc_is_integer, od_is_integer, .func (PySem.W.fnOf "is_integer" "is_integer" (defArgs s_is_integer) (defBody s_is_integer) (defScope s_is_integer) .none kV_is_integer dc_is_integer pm_is_integer an_is_integer cd_is_integer ct_is_integer), sl_is_integer⟩) (e_is_integer : PySem.W.codeIn K cd_is_integer "is_integer" = true) (k_is_integer : PySem.W.keepIn K (.ref f_is_integer) = true)
    {f_is_list : Addr} {oc_is_list kV_is_list dc_is_list pm_is_list cd_is_list ct_is_list : Value} {od_is_list an_is_list : Option Addr} {sl_is_list : Array (Option Value)}
    (a_is_list : PySem.W.nsIn K mainGlobals "is_list" = some (some (.ref f_is_list))) (l_is_list : K.lookup f_is_list = some ⟨oc_is_list, od_is_list, .func (PySem.W.fnOf "is_list" "is_list" (defArgs s_is_list) (defBody s_is_list) (defScope s_is_list) .none kV_is_list dc_is_list pm_is_list an_is_list cd_is_list ct_is_list), sl_is_list⟩) (e_is_list : PySem.W.codeIn K cd_is_list "is_list" = true) (k_is_list : PySem.W.keepIn K (.ref f_is_list) = true)
    {f_is_text : Addr} {oc_is_text kV_is_text dc_is_text pm_is_text cd_is_text ct_is_text : Value} {od_is_text an_is_text : Option Addr} {sl_is_text : Array (Option Value)}
    (a_is_text : PySem.W.nsIn K mainGlobals "is_text" = some (some (.ref f_is_text))) (l_is_text : K.lookup f_is_text = some ⟨oc_is_text, od_is_text, .func (PySem.W.fnOf "is_text" "is_text" (defArgs s_is_text) (defBody s_is_text) (defScope s_is_text) .none kV_is_text dc_is_text pm_is_text an_is_text cd_is_text ct_is_text), sl_is_text⟩) (e_is_text : PySem.W.codeIn K cd_is_text "is_text" = true) (k_is_text : PySem.W.keepIn K (.ref f_is_text) = true)
    {f_are_letters : Addr} {oc_are_letters kV_are_letters dc_are_letters pm_are_letters cd_are_letters ct_are_letters : Value} {od_are_letters an_are_letters : Option Addr} {sl_are_letters : Array (Option Value)}
    (a_are_letters : PySem.W.nsIn K mainGlobals "are_letters" = some (some (.ref f_are_letters))) (l_are_letters : K.lookup f_are_letters = some ⟨oc_are_letters, od_are_letters, .func (PySem.W.fnOf "are_letters" "are_letters" (defArgs s_are_letters) (defBody s_are_letters) (defScope s_are_letters) .none kV_are_letters dc_are_letters pm_are_letters an_are_letters cd_are_letters ct_are_letters), sl_are_letters⟩) (e_are_letters : PySem.W.codeIn K cd_are_letters "are_letters" = true) (k_are_letters : PySem.W.keepIn K (.ref f_are_letters) = true)
    {f_is_text_over : Addr} {oc_is_text_over kV_is_text_over dc_is_text_over pm_is_text_over cd_is_text_over ct_is_text_over : Value} {od_is_text_over an_is_text_over : Option Addr} {sl_is_text_over : Array (Option Value)}
    (a_is_text_over : PySem.W.nsIn K mainGlobals "is_text_over" = some (some (.ref f_is_text_over))) (l_is_text_over : K.lookup f_is_text_over = some ⟨oc_is_text_over, od_is_text_over, .func (PySem.W.fnOf "is_text_over" "is_text_over" (defArgs s_is_text_over) (defBody s_is_text_over) (defScope s_is_text_over) .none kV_is_text_over dc_is_text_over pm_is_text_over an_is_text_over cd_is_text_over ct_is_text_over), sl_is_text_over⟩) (e_is_text_over : PySem.W.codeIn K cd_is_text_over "is_text_over" = true) (k_is_text_over : PySem.W.keepIn K (.ref f_is_text_over) = true)
    {f_want_few : Addr} {oc_want_few kV_want_few dc_want_few pm_want_few cd_want_few ct_want_few : Value} {od_want_few an_want_few : Option Addr} {sl_want_few : Array (Option Value)}
    (a_want_few : PySem.W.nsIn K mainGlobals "want_few" = some (some (.ref f_want_few))) (l_want_few : K.lookup f_want_few = some ⟨oc_want_few, od_want_few, .func (PySem.W.fnOf "want_few" "want_few" (defArgs s_want_few) (defBody s_want_few) (defScope s_want_few) .none kV_want_few dc_want_few pm_want_few an_want_few cd_want_few ct_want_few), sl_want_few⟩) (e_want_few : PySem.W.codeIn K cd_want_few "want_few" = true) (k_want_few : PySem.W.keepIn K (.ref f_want_few) = true)
    {f_is_row : Addr} {oc_is_row kV_is_row dc_is_row pm_is_row cd_is_row ct_is_row : Value} {od_is_row an_is_row : Option Addr} {sl_is_row : Array (Option Value)}
    (a_is_row : PySem.W.nsIn K mainGlobals "is_row" = some (some (.ref f_is_row))) (l_is_row : K.lookup f_is_row = some ⟨oc_is_row, od_is_row, .func (PySem.W.fnOf "is_row" "is_row" (defArgs s_is_row) (defBody s_is_row) (defScope s_is_row) .none kV_is_row dc_is_row pm_is_row an_is_row cd_is_row ct_is_row), sl_is_row⟩) (e_is_row : PySem.W.codeIn K cd_is_row "is_row" = true) (k_is_row : PySem.W.keepIn K (.ref f_is_row) = true)
    {f_want_machine : Addr} {oc_want_machine kV_want_machine dc_want_machine pm_want_machine cd_want_machine ct_want_machine : Value} {od_want_machine an_want_machine : Option Addr} {sl_want_machine : Array (Option Value)}
    (a_want_machine : PySem.W.nsIn K mainGlobals "want_machine" = some (some (.ref f_want_machine))) (l_want_machine : K.lookup f_want_machine = some ⟨oc_want_machine, od_want_machine, .func (PySem.W.fnOf "want_machine" "want_machine" (defArgs s_want_machine) (defBody s_want_machine) (defScope s_want_machine) .none kV_want_machine dc_want_machine pm_want_machine an_want_machine cd_want_machine ct_want_machine), sl_want_machine⟩) (e_want_machine : PySem.W.codeIn K cd_want_machine "want_machine" = true) (k_want_machine : PySem.W.keepIn K (.ref f_want_machine) = true)
    {f_met_from : Addr} {oc_met_from kV_met_from dc_met_from pm_met_from cd_met_from ct_met_from : Value} {od_met_from an_met_from : Option Addr} {sl_met_from : Array (Option Value)}
    (a_met_from : PySem.W.nsIn K mainGlobals "met_from" = some (some (.ref f_met_from))) (l_met_from : K.lookup f_met_from = some ⟨oc_met_from, od_met_from, .func (PySem.W.fnOf "met_from" "met_from" (defArgs s_met_from) (defBody s_met_from) (defScope s_met_from) .none kV_met_from dc_met_from pm_met_from an_met_from cd_met_from ct_met_from), sl_met_from⟩) (e_met_from : PySem.W.codeIn K cd_met_from "met_from" = true) (k_met_from : PySem.W.keepIn K (.ref f_met_from) = true)
    {f_want_text : Addr} {oc_want_text kV_want_text dc_want_text pm_want_text cd_want_text ct_want_text : Value} {od_want_text an_want_text : Option Addr} {sl_want_text : Array (Option Value)}
    (a_want_text : PySem.W.nsIn K mainGlobals "want_text" = some (some (.ref f_want_text))) (l_want_text : K.lookup f_want_text = some ⟨oc_want_text, od_want_text, .func (PySem.W.fnOf "want_text" "want_text" (defArgs s_want_text) (defBody s_want_text) (defScope s_want_text) .none kV_want_text dc_want_text pm_want_text an_want_text cd_want_text ct_want_text), sl_want_text⟩) (e_want_text : PySem.W.codeIn K cd_want_text "want_text" = true) (k_want_text : PySem.W.keepIn K (.ref f_want_text) = true)
    {f_want_place : Addr} {oc_want_place kV_want_place dc_want_place pm_want_place cd_want_place ct_want_place : Value} {od_want_place an_want_place : Option Addr} {sl_want_place : Array (Option Value)}
    (a_want_place : PySem.W.nsIn K mainGlobals "want_place" = some (some (.ref f_want_place))) (l_want_place : K.lookup f_want_place = some ⟨oc_want_place, od_want_place, .func (PySem.W.fnOf "want_place" "want_place" (defArgs s_want_place) (defBody s_want_place) (defScope s_want_place) .none kV_want_place dc_want_place pm_want_place an_want_place cd_want_place ct_want_place), sl_want_place⟩) (e_want_place : PySem.W.codeIn K cd_want_place "want_place" = true) (k_want_place : PySem.W.keepIn K (.ref f_want_place) = true)
    {f_led : Addr} {oc_led kV_led dc_led pm_led cd_led ct_led : Value} {od_led an_led : Option Addr} {sl_led : Array (Option Value)}
    (a_led : PySem.W.nsIn K mainGlobals "led" = some (some (.ref f_led))) (l_led : K.lookup f_led = some ⟨oc_led, od_led, .func (PySem.W.fnOf "led" "led" (defArgs s_led) (defBody s_led) (defScope s_led) .none kV_led dc_led pm_led an_led cd_led ct_led), sl_led⟩) (e_led : PySem.W.codeIn K cd_led "led" = true) (k_led : PySem.W.keepIn K (.ref f_led) = true)
    {f_is_taken : Addr} {oc_is_taken kV_is_taken dc_is_taken pm_is_taken cd_is_taken ct_is_taken : Value} {od_is_taken an_is_taken : Option Addr} {sl_is_taken : Array (Option Value)}
    (a_is_taken : PySem.W.nsIn K mainGlobals "is_taken" = some (some (.ref f_is_taken))) (l_is_taken : K.lookup f_is_taken = some ⟨oc_is_taken, od_is_taken, .func (PySem.W.fnOf "is_taken" "is_taken" (defArgs s_is_taken) (defBody s_is_taken) (defScope s_is_taken) .none kV_is_taken dc_is_taken pm_is_taken an_is_taken cd_is_taken ct_is_taken), sl_is_taken⟩) (e_is_taken : PySem.W.codeIn K cd_is_taken "is_taken" = true) (k_is_taken : PySem.W.keepIn K (.ref f_is_taken) = true)
    {f_contrary : Addr} {oc_contrary kV_contrary dc_contrary pm_contrary cd_contrary ct_contrary : Value} {od_contrary an_contrary : Option Addr} {sl_contrary : Array (Option Value)}
    (a_contrary : PySem.W.nsIn K mainGlobals "contrary" = some (some (.ref f_contrary))) (l_contrary : K.lookup f_contrary = some ⟨oc_contrary, od_contrary, .func (PySem.W.fnOf "contrary" "contrary" (defArgs s_contrary) (defBody s_contrary) (defScope s_contrary) .none kV_contrary dc_contrary pm_contrary an_contrary cd_contrary ct_contrary), sl_contrary⟩) (e_contrary : PySem.W.codeIn K cd_contrary "contrary" = true) (k_contrary : PySem.W.keepIn K (.ref f_contrary) = true)
    {f_line_of : Addr} {oc_line_of kV_line_of dc_line_of pm_line_of cd_line_of ct_line_of : Value} {od_line_of an_line_of : Option Addr} {sl_line_of : Array (Option Value)}
    (a_line_of : PySem.W.nsIn K mainGlobals "line_of" = some (some (.ref f_line_of))) (l_line_of : K.lookup f_line_of = some ⟨oc_line_of, od_line_of, .func (PySem.W.fnOf "line_of" "line_of" (defArgs s_line_of) (defBody s_line_of) (defScope s_line_of) .none kV_line_of dc_line_of pm_line_of an_line_of cd_line_of ct_line_of), sl_line_of⟩) (e_line_of : PySem.W.codeIn K cd_line_of "line_of" = true) (k_line_of : PySem.W.keepIn K (.ref f_line_of) = true)
    {f_machine_lines : Addr} {oc_machine_lines kV_machine_lines dc_machine_lines pm_machine_lines cd_machine_lines ct_machine_lines : Value} {od_machine_lines an_machine_lines : Option Addr} {sl_machine_lines : Array (Option Value)}
    (a_machine_lines : PySem.W.nsIn K mainGlobals "machine_lines" = some (some (.ref f_machine_lines))) (l_machine_lines : K.lookup f_machine_lines = some ⟨oc_machine_lines, od_machine_lines, .func (PySem.W.fnOf "machine_lines" "machine_lines" (defArgs s_machine_lines) (defBody s_machine_lines) (defScope s_machine_lines) .none kV_machine_lines dc_machine_lines pm_machine_lines an_machine_lines cd_machine_lines ct_machine_lines), sl_machine_lines⟩) (e_machine_lines : PySem.W.codeIn K cd_machine_lines "machine_lines" = true) (k_machine_lines : PySem.W.keepIn K (.ref f_machine_lines) = true)
    {f_text_of : Addr} {oc_text_of kV_text_of dc_text_of pm_text_of cd_text_of ct_text_of : Value} {od_text_of an_text_of : Option Addr} {sl_text_of : Array (Option Value)}
    (a_text_of : PySem.W.nsIn K mainGlobals "text_of" = some (some (.ref f_text_of))) (l_text_of : K.lookup f_text_of = some ⟨oc_text_of, od_text_of, .func (PySem.W.fnOf "text_of" "text_of" (defArgs s_text_of) (defBody s_text_of) (defScope s_text_of) .none kV_text_of dc_text_of pm_text_of an_text_of cd_text_of ct_text_of), sl_text_of⟩) (e_text_of : PySem.W.codeIn K cd_text_of "text_of" = true) (k_text_of : PySem.W.keepIn K (.ref f_text_of) = true)
    {f_bytes_of : Addr} {oc_bytes_of kV_bytes_of dc_bytes_of pm_bytes_of cd_bytes_of ct_bytes_of : Value} {od_bytes_of an_bytes_of : Option Addr} {sl_bytes_of : Array (Option Value)}
    (a_bytes_of : PySem.W.nsIn K mainGlobals "bytes_of" = some (some (.ref f_bytes_of))) (l_bytes_of : K.lookup f_bytes_of = some ⟨oc_bytes_of, od_bytes_of, .func (PySem.W.fnOf "bytes_of" "bytes_of" (defArgs s_bytes_of) (defBody s_bytes_of) (defScope s_bytes_of) .none kV_bytes_of dc_bytes_of pm_bytes_of an_bytes_of cd_bytes_of ct_bytes_of), sl_bytes_of⟩) (e_bytes_of : PySem.W.codeIn K cd_bytes_of "bytes_of" = true) (k_bytes_of : PySem.W.keepIn K (.ref f_bytes_of) = true)
    {f_goal_of : Addr} {oc_goal_of kV_goal_of dc_goal_of pm_goal_of cd_goal_of ct_goal_of : Value} {od_goal_of an_goal_of : Option Addr} {sl_goal_of : Array (Option Value)}
    (a_goal_of : PySem.W.nsIn K mainGlobals "goal_of" = some (some (.ref f_goal_of))) (l_goal_of : K.lookup f_goal_of = some ⟨oc_goal_of, od_goal_of, .func (PySem.W.fnOf "goal_of" "goal_of" (defArgs s_goal_of) (defBody s_goal_of) (defScope s_goal_of) .none kV_goal_of dc_goal_of pm_goal_of an_goal_of cd_goal_of ct_goal_of), sl_goal_of⟩) (e_goal_of : PySem.W.codeIn K cd_goal_of "goal_of" = true) (k_goal_of : PySem.W.keepIn K (.ref f_goal_of) = true)
    {f_read_by : Addr} {oc_read_by kV_read_by dc_read_by pm_read_by cd_read_by ct_read_by : Value} {od_read_by an_read_by : Option Addr} {sl_read_by : Array (Option Value)}
    (a_read_by : PySem.W.nsIn K mainGlobals "read_by" = some (some (.ref f_read_by))) (l_read_by : K.lookup f_read_by = some ⟨oc_read_by, od_read_by, .func (PySem.W.fnOf "read_by" "read_by" (defArgs s_read_by) (defBody s_read_by) (defScope s_read_by) .none kV_read_by dc_read_by pm_read_by an_read_by cd_read_by ct_read_by), sl_read_by⟩) (e_read_by : PySem.W.codeIn K cd_read_by "read_by" = true) (k_read_by : PySem.W.keepIn K (.ref f_read_by) = true)
    {f_read_machine : Addr} {oc_read_machine kV_read_machine dc_read_machine pm_read_machine cd_read_machine ct_read_machine : Value} {od_read_machine an_read_machine : Option Addr} {sl_read_machine : Array (Option Value)}
    (a_read_machine : PySem.W.nsIn K mainGlobals "read_machine" = some (some (.ref f_read_machine))) (l_read_machine : K.lookup f_read_machine = some ⟨oc_read_machine, od_read_machine, .func (PySem.W.fnOf "read_machine" "read_machine" (defArgs s_read_machine) (defBody s_read_machine) (defScope s_read_machine) .none kV_read_machine dc_read_machine pm_read_machine an_read_machine cd_read_machine ct_read_machine), sl_read_machine⟩) (e_read_machine : PySem.W.codeIn K cd_read_machine "read_machine" = true) (k_read_machine : PySem.W.keepIn K (.ref f_read_machine) = true)
    {f_read_sum : Addr} {oc_read_sum kV_read_sum dc_read_sum pm_read_sum cd_read_sum ct_read_sum : Value} {od_read_sum an_read_sum : Option Addr} {sl_read_sum : Array (Option Value)}
    (a_read_sum : PySem.W.nsIn K mainGlobals "read_sum" = some (some (.ref f_read_sum))) (l_read_sum : K.lookup f_read_sum = some ⟨oc_read_sum, od_read_sum, .func (PySem.W.fnOf "read_sum" "read_sum" (defArgs s_read_sum) (defBody s_read_sum) (defScope s_read_sum) .none kV_read_sum dc_read_sum pm_read_sum an_read_sum cd_read_sum ct_read_sum), sl_read_sum⟩) (e_read_sum : PySem.W.codeIn K cd_read_sum "read_sum" = true) (k_read_sum : PySem.W.keepIn K (.ref f_read_sum) = true)
    {f_law_pot : Addr} {oc_law_pot kV_law_pot dc_law_pot pm_law_pot cd_law_pot ct_law_pot : Value} {od_law_pot an_law_pot : Option Addr} {sl_law_pot : Array (Option Value)}
    (a_law_pot : PySem.W.nsIn K mainGlobals "_law_pot" = some (some (.ref f_law_pot))) (l_law_pot : K.lookup f_law_pot = some ⟨oc_law_pot, od_law_pot, .func (PySem.W.fnOf "_law_pot" "_law_pot" (defArgs s_law_pot) (defBody s_law_pot) (defScope s_law_pot) .none kV_law_pot dc_law_pot pm_law_pot an_law_pot cd_law_pot ct_law_pot), sl_law_pot⟩) (e_law_pot : PySem.W.codeIn K cd_law_pot "_law_pot" = true) (k_law_pot : PySem.W.keepIn K (.ref f_law_pot) = true)
    {f_law_draw : Addr} {oc_law_draw kV_law_draw dc_law_draw pm_law_draw cd_law_draw ct_law_draw : Value} {od_law_draw an_law_draw : Option Addr} {sl_law_draw : Array (Option Value)}
    (a_law_draw : PySem.W.nsIn K mainGlobals "_law_draw" = some (some (.ref f_law_draw))) (l_law_draw : K.lookup f_law_draw = some ⟨oc_law_draw, od_law_draw, .func (PySem.W.fnOf "_law_draw" "_law_draw" (defArgs s_law_draw) (defBody s_law_draw) (defScope s_law_draw) .none kV_law_draw dc_law_draw pm_law_draw an_law_draw cd_law_draw ct_law_draw), sl_law_draw⟩) (e_law_draw : PySem.W.codeIn K cd_law_draw "_law_draw" = true) (k_law_draw : PySem.W.keepIn K (.ref f_law_draw) = true)
    {f_law_pick : Addr} {oc_law_pick kV_law_pick dc_law_pick pm_law_pick cd_law_pick ct_law_pick : Value} {od_law_pick an_law_pick : Option Addr} {sl_law_pick : Array (Option Value)}
    (a_law_pick : PySem.W.nsIn K mainGlobals "_law_pick" = some (some (.ref f_law_pick))) (l_law_pick : K.lookup f_law_pick = some ⟨oc_law_pick, od_law_pick, .func (PySem.W.fnOf "_law_pick" "_law_pick" (defArgs s_law_pick) (defBody s_law_pick) (defScope s_law_pick) .none kV_law_pick dc_law_pick pm_law_pick an_law_pick cd_law_pick ct_law_pick), sl_law_pick⟩) (e_law_pick : PySem.W.codeIn K cd_law_pick "_law_pick" = true) (k_law_pick : PySem.W.keepIn K (.ref f_law_pick) = true)
    {f_law_met : Addr} {oc_law_met kV_law_met dc_law_met pm_law_met cd_law_met ct_law_met : Value} {od_law_met an_law_met : Option Addr} {sl_law_met : Array (Option Value)}
    (a_law_met : PySem.W.nsIn K mainGlobals "_law_met" = some (some (.ref f_law_met))) (l_law_met : K.lookup f_law_met = some ⟨oc_law_met, od_law_met, .func (PySem.W.fnOf "_law_met" "_law_met" (defArgs s_law_met) (defBody s_law_met) (defScope s_law_met) .none kV_law_met dc_law_met pm_law_met an_law_met cd_law_met ct_law_met), sl_law_met⟩) (e_law_met : PySem.W.codeIn K cd_law_met "_law_met" = true) (k_law_met : PySem.W.keepIn K (.ref f_law_met) = true)
    {f_law_lines : Addr} {oc_law_lines kV_law_lines dc_law_lines pm_law_lines cd_law_lines ct_law_lines : Value} {od_law_lines an_law_lines : Option Addr} {sl_law_lines : Array (Option Value)}
    (a_law_lines : PySem.W.nsIn K mainGlobals "_law_lines" = some (some (.ref f_law_lines))) (l_law_lines : K.lookup f_law_lines = some ⟨oc_law_lines, od_law_lines, .func (PySem.W.fnOf "_law_lines" "_law_lines" (defArgs s_law_lines) (defBody s_law_lines) (defScope s_law_lines) .none kV_law_lines dc_law_lines pm_law_lines an_law_lines cd_law_lines ct_law_lines), sl_law_lines⟩) (e_law_lines : PySem.W.codeIn K cd_law_lines "_law_lines" = true) (k_law_lines : PySem.W.keepIn K (.ref f_law_lines) = true)
    {f_law_text : Addr} {oc_law_text kV_law_text dc_law_text pm_law_text cd_law_text ct_law_text : Value} {od_law_text an_law_text : Option Addr} {sl_law_text : Array (Option Value)}
    (a_law_text : PySem.W.nsIn K mainGlobals "_law_text" = some (some (.ref f_law_text))) (l_law_text : K.lookup f_law_text = some ⟨oc_law_text, od_law_text, .func (PySem.W.fnOf "_law_text" "_law_text" (defArgs s_law_text) (defBody s_law_text) (defScope s_law_text) .none kV_law_text dc_law_text pm_law_text an_law_text cd_law_text ct_law_text), sl_law_text⟩) (e_law_text : PySem.W.codeIn K cd_law_text "_law_text" = true) (k_law_text : PySem.W.keepIn K (.ref f_law_text) = true)
    {f_law_line : Addr} {oc_law_line kV_law_line dc_law_line pm_law_line cd_law_line ct_law_line : Value} {od_law_line an_law_line : Option Addr} {sl_law_line : Array (Option Value)}
    (a_law_line : PySem.W.nsIn K mainGlobals "_law_line" = some (some (.ref f_law_line))) (l_law_line : K.lookup f_law_line = some ⟨oc_law_line, od_law_line, .func (PySem.W.fnOf "_law_line" "_law_line" (defArgs s_law_line) (defBody s_law_line) (defScope s_law_line) .none kV_law_line dc_law_line pm_law_line an_law_line cd_law_line ct_law_line), sl_law_line⟩) (e_law_line : PySem.W.codeIn K cd_law_line "_law_line" = true) (k_law_line : PySem.W.keepIn K (.ref f_law_line) = true)
    {f_law_mixed : Addr} {oc_law_mixed kV_law_mixed dc_law_mixed pm_law_mixed cd_law_mixed ct_law_mixed : Value} {od_law_mixed an_law_mixed : Option Addr} {sl_law_mixed : Array (Option Value)}
    (a_law_mixed : PySem.W.nsIn K mainGlobals "_law_mixed" = some (some (.ref f_law_mixed))) (l_law_mixed : K.lookup f_law_mixed = some ⟨oc_law_mixed, od_law_mixed, .func (PySem.W.fnOf "_law_mixed" "_law_mixed" (defArgs s_law_mixed) (defBody s_law_mixed) (defScope s_law_mixed) .none kV_law_mixed dc_law_mixed pm_law_mixed an_law_mixed cd_law_mixed ct_law_mixed), sl_law_mixed⟩) (e_law_mixed : PySem.W.codeIn K cd_law_mixed "_law_mixed" = true) (k_law_mixed : PySem.W.keepIn K (.ref f_law_mixed) = true)
    {f_law_goes : Addr} {oc_law_goes kV_law_goes dc_law_goes pm_law_goes cd_law_goes ct_law_goes : Value} {od_law_goes an_law_goes : Option Addr} {sl_law_goes : Array (Option Value)}
    (a_law_goes : PySem.W.nsIn K mainGlobals "_law_goes" = some (some (.ref f_law_goes))) (l_law_goes : K.lookup f_law_goes = some ⟨oc_law_goes, od_law_goes, .func (PySem.W.fnOf "_law_goes" "_law_goes" (defArgs s_law_goes) (defBody s_law_goes) (defScope s_law_goes) .none kV_law_goes dc_law_goes pm_law_goes an_law_goes cd_law_goes ct_law_goes), sl_law_goes⟩) (e_law_goes : PySem.W.codeIn K cd_law_goes "_law_goes" = true) (k_law_goes : PySem.W.keepIn K (.ref f_law_goes) = true)
    {f_law_asked_right : Addr} {oc_law_asked_right kV_law_asked_right dc_law_asked_right pm_law_asked_right cd_law_asked_right ct_law_asked_right : Value} {od_law_asked_right an_law_asked_right : Option Addr} {sl_law_asked_right : Array (Option Value)}
    (a_law_asked_right : PySem.W.nsIn K mainGlobals "_law_asked_right" = some (some (.ref f_law_asked_right))) (l_law_asked_right : K.lookup f_law_asked_right = some ⟨oc_law_asked_right, od_law_asked_right, .func (PySem.W.fnOf "_law_asked_right" "_law_asked_right" (defArgs s_law_asked_right) (defBody s_law_asked_right) (defScope s_law_asked_right) .none kV_law_asked_right dc_law_asked_right pm_law_asked_right an_law_asked_right cd_law_asked_right ct_law_asked_right), sl_law_asked_right⟩) (e_law_asked_right : PySem.W.codeIn K cd_law_asked_right "_law_asked_right" = true) (k_law_asked_right : PySem.W.keepIn K (.ref f_law_asked_right) = true)
    {f_law_plan : Addr} {oc_law_plan kV_law_plan dc_law_plan pm_law_plan cd_law_plan ct_law_plan : Value} {od_law_plan an_law_plan : Option Addr} {sl_law_plan : Array (Option Value)}
    (a_law_plan : PySem.W.nsIn K mainGlobals "_law_plan" = some (some (.ref f_law_plan))) (l_law_plan : K.lookup f_law_plan = some ⟨oc_law_plan, od_law_plan, .func (PySem.W.fnOf "_law_plan" "_law_plan" (defArgs s_law_plan) (defBody s_law_plan) (defScope s_law_plan) .none kV_law_plan dc_law_plan pm_law_plan an_law_plan cd_law_plan ct_law_plan), sl_law_plan⟩) (e_law_plan : PySem.W.codeIn K cd_law_plan "_law_plan" = true) (k_law_plan : PySem.W.keepIn K (.ref f_law_plan) = true)
    {f_law_right : Addr} {oc_law_right kV_law_right dc_law_right pm_law_right cd_law_right ct_law_right : Value} {od_law_right an_law_right : Option Addr} {sl_law_right : Array (Option Value)}
    (a_law_right : PySem.W.nsIn K mainGlobals "_law_right" = some (some (.ref f_law_right))) (l_law_right : K.lookup f_law_right = some ⟨oc_law_right, od_law_right, .func (PySem.W.fnOf "_law_right" "_law_right" (defArgs s_law_right) (defBody s_law_right) (defScope s_law_right) .none kV_law_right dc_law_right pm_law_right an_law_right cd_law_right ct_law_right), sl_law_right⟩) (e_law_right : PySem.W.codeIn K cd_law_right "_law_right" = true) (k_law_right : PySem.W.keepIn K (.ref f_law_right) = true)
    {f_law : Addr} {oc_law kV_law dc_law pm_law cd_law ct_law : Value} {od_law an_law : Option Addr} {sl_law : Array (Option Value)}
    (a_law : PySem.W.nsIn K mainGlobals "law" = some (some (.ref f_law))) (l_law : K.lookup f_law = some ⟨oc_law, od_law, .func (PySem.W.fnOf "law" "law" (defArgs s_law) (defBody s_law) (defScope s_law) .none kV_law dc_law pm_law an_law cd_law ct_law), sl_law⟩) (e_law : PySem.W.codeIn K cd_law "law" = true) (k_law : PySem.W.keepIn K (.ref f_law) = true)
    {C_Machine : Addr} (a_Machine : PySem.W.nsIn K mainGlobals "Machine" = some (some (.ref C_Machine))) (pg_Machine : PySem.W.plainGet K C_Machine Str.empty = true) (hd_Machine : PySem.W.hasDictIn K C_Machine = true) (po_Machine : PySem.W.plainOver K C_Machine = true) (sa_Machine : PySem.W.findIn K (.ref C_Machine) "__setattr__" = some (some (.builtin "object.__setattr__"))) (mk_Machine : PySem.W.makesIn K C_Machine = true) (kc_Machine : PySem.W.keepIn K (.ref C_Machine) = true)
    (ca_Machine : PySem.W.findIn K (.ref C_Machine) "__class__" = some (some (.builtin "object.__class__"))) (cg_Machine : PySem.W.specialIn K (.builtin "object.__class__") "__get__" = some (some (.builtin "getset_descriptor.__get__"))) (ct_Machine : PySem.W.takesIn K (.builtin "object.__class__") = some true) (ne_Machine : PySem.W.findIn K (.ref C_Machine) "__ne__" = some (some (.builtin "object.__ne__"))) (tt_Machine : PySem.W.typeIn K (.ref C_Machine) = some (.type "type")) (cr_Machine : PySem.W.readsIn K C_Machine (.type "type") = true) (ck_Machine : PySem.W.specialIn K (.ref C_Machine) "__getattribute__" = some (some (.builtin "type.__getattribute__")))
    {u_Machine_MOST_PLACES : Tok} (cv_Machine_MOST_PLACES : PySem.W.findCls K (.ref C_Machine) (.type "type") "MOST_PLACES" = some (.val (.int 40 u_Machine_MOST_PLACES)))
    (nf_Machine_own_letters : PySem.W.findIn K (.ref C_Machine) "own_letters" = some none)
    (nf_Machine_own_rows : PySem.W.findIn K (.ref C_Machine) "own_rows" = some none)
    (nf_Machine_own_kinds : PySem.W.findIn K (.ref C_Machine) "own_kinds" = some none)
    {t_Machine_MOST_PLACES : Tok} (ka_Machine_MOST_PLACES : PySem.W.findIn K (.ref C_Machine) "MOST_PLACES" = some (some (.int 40 t_Machine_MOST_PLACES))) (kg_Machine_MOST_PLACES : PySem.W.specialIn K (.int 40 t_Machine_MOST_PLACES) "__get__" = some none)
    {f_Machine_init : Addr} {oc_Machine_init kV_Machine_init dc_Machine_init pm_Machine_init cd_Machine_init ct_Machine_init : Value} {od_Machine_init an_Machine_init : Option Addr} {sl_Machine_init : Array (Option Value)}
    (a_Machine_init : PySem.W.findIn K (.ref C_Machine) "__init__" = some (some (.ref f_Machine_init))) (i_Machine_init : PySem.W.isFn K (.ref f_Machine_init) = true)
    (l_Machine_init : K.lookup f_Machine_init = some ⟨oc_Machine_init, od_Machine_init, .func (PySem.W.fnOf "__init__" "Machine.__init__" (defArgs s_Machine_init) (defBody s_Machine_init) (defScope s_Machine_init) .none kV_Machine_init dc_Machine_init pm_Machine_init an_Machine_init cd_Machine_init ct_Machine_init), sl_Machine_init⟩) (e_Machine_init : PySem.W.codeIn K cd_Machine_init "Machine.__init__" = true) (k_Machine_init : PySem.W.keepIn K (.ref f_Machine_init) = true)
    {f_Machine_rows : Addr} {oc_Machine_rows kV_Machine_rows dc_Machine_rows pm_Machine_rows cd_Machine_rows ct_Machine_rows : Value} {od_Machine_rows an_Machine_rows : Option Addr} {sl_Machine_rows : Array (Option Value)}
    (a_Machine_rows : PySem.W.findIn K (.ref C_Machine) "rows" = some (some (.ref f_Machine_rows))) (i_Machine_rows : PySem.W.isFn K (.ref f_Machine_rows) = true)
    (l_Machine_rows : K.lookup f_Machine_rows = some ⟨oc_Machine_rows, od_Machine_rows, .func (PySem.W.fnOf "rows" "Machine.rows" (defArgs s_Machine_rows) (defBody s_Machine_rows) (defScope s_Machine_rows) .none kV_Machine_rows dc_Machine_rows pm_Machine_rows an_Machine_rows cd_Machine_rows ct_Machine_rows), sl_Machine_rows⟩) (e_Machine_rows : PySem.W.codeIn K cd_Machine_rows "Machine.rows" = true) (k_Machine_rows : PySem.W.keepIn K (.ref f_Machine_rows) = true)
    {f_Machine_kinds : Addr} {oc_Machine_kinds kV_Machine_kinds dc_Machine_kinds pm_Machine_kinds cd_Machine_kinds ct_Machine_kinds : Value} {od_Machine_kinds an_Machine_kinds : Option Addr} {sl_Machine_kinds : Array (Option Value)}
    (a_Machine_kinds : PySem.W.findIn K (.ref C_Machine) "kinds" = some (some (.ref f_Machine_kinds))) (i_Machine_kinds : PySem.W.isFn K (.ref f_Machine_kinds) = true)
    (l_Machine_kinds : K.lookup f_Machine_kinds = some ⟨oc_Machine_kinds, od_Machine_kinds, .func (PySem.W.fnOf "kinds" "Machine.kinds" (defArgs s_Machine_kinds) (defBody s_Machine_kinds) (defScope s_Machine_kinds) .none kV_Machine_kinds dc_Machine_kinds pm_Machine_kinds an_Machine_kinds cd_Machine_kinds ct_Machine_kinds), sl_Machine_kinds⟩) (e_Machine_kinds : PySem.W.codeIn K cd_Machine_kinds "Machine.kinds" = true) (k_Machine_kinds : PySem.W.keepIn K (.ref f_Machine_kinds) = true)
    {f_Machine_goes : Addr} {oc_Machine_goes kV_Machine_goes dc_Machine_goes pm_Machine_goes cd_Machine_goes ct_Machine_goes : Value} {od_Machine_goes an_Machine_goes : Option Addr} {sl_Machine_goes : Array (Option Value)}
    (a_Machine_goes : PySem.W.findIn K (.ref C_Machine) "goes" = some (some (.ref f_Machine_goes))) (i_Machine_goes : PySem.W.isFn K (.ref f_Machine_goes) = true)
    (l_Machine_goes : K.lookup f_Machine_goes = some ⟨oc_Machine_goes, od_Machine_goes, .func (PySem.W.fnOf "goes" "Machine.goes" (defArgs s_Machine_goes) (defBody s_Machine_goes) (defScope s_Machine_goes) .none kV_Machine_goes dc_Machine_goes pm_Machine_goes an_Machine_goes cd_Machine_goes ct_Machine_goes), sl_Machine_goes⟩) (e_Machine_goes : PySem.W.codeIn K cd_Machine_goes "Machine.goes" = true) (k_Machine_goes : PySem.W.keepIn K (.ref f_Machine_goes) = true)
    {f_Machine_takes : Addr} {oc_Machine_takes kV_Machine_takes dc_Machine_takes pm_Machine_takes cd_Machine_takes ct_Machine_takes : Value} {od_Machine_takes an_Machine_takes : Option Addr} {sl_Machine_takes : Array (Option Value)}
    (a_Machine_takes : PySem.W.findIn K (.ref C_Machine) "takes" = some (some (.ref f_Machine_takes))) (i_Machine_takes : PySem.W.isFn K (.ref f_Machine_takes) = true)
    (l_Machine_takes : K.lookup f_Machine_takes = some ⟨oc_Machine_takes, od_Machine_takes, .func (PySem.W.fnOf "takes" "Machine.takes" (defArgs s_Machine_takes) (defBody s_Machine_takes) (defScope s_Machine_takes) .none kV_Machine_takes dc_Machine_takes pm_Machine_takes an_Machine_takes cd_Machine_takes ct_Machine_takes), sl_Machine_takes⟩) (e_Machine_takes : PySem.W.codeIn K cd_Machine_takes "Machine.takes" = true) (k_Machine_takes : PySem.W.keepIn K (.ref f_Machine_takes) = true)
    {f_Machine_len : Addr} {oc_Machine_len kV_Machine_len dc_Machine_len pm_Machine_len cd_Machine_len ct_Machine_len : Value} {od_Machine_len an_Machine_len : Option Addr} {sl_Machine_len : Array (Option Value)}
    (a_Machine_len : PySem.W.findIn K (.ref C_Machine) "__len__" = some (some (.ref f_Machine_len))) (i_Machine_len : PySem.W.isFn K (.ref f_Machine_len) = true)
    (l_Machine_len : K.lookup f_Machine_len = some ⟨oc_Machine_len, od_Machine_len, .func (PySem.W.fnOf "__len__" "Machine.__len__" (defArgs s_Machine_len) (defBody s_Machine_len) (defScope s_Machine_len) .none kV_Machine_len dc_Machine_len pm_Machine_len an_Machine_len cd_Machine_len ct_Machine_len), sl_Machine_len⟩) (e_Machine_len : PySem.W.codeIn K cd_Machine_len "Machine.__len__" = true) (k_Machine_len : PySem.W.keepIn K (.ref f_Machine_len) = true)
    {f_Machine_contains : Addr} {oc_Machine_contains kV_Machine_contains dc_Machine_contains pm_Machine_contains cd_Machine_contains ct_Machine_contains : Value} {od_Machine_contains an_Machine_contains : Option Addr} {sl_Machine_contains : Array (Option Value)}
    (a_Machine_contains : PySem.W.findIn K (.ref C_Machine) "__contains__" = some (some (.ref f_Machine_contains))) (i_Machine_contains : PySem.W.isFn K (.ref f_Machine_contains) = true)
    (l_Machine_contains : K.lookup f_Machine_contains = some ⟨oc_Machine_contains, od_Machine_contains, .func (PySem.W.fnOf "__contains__" "Machine.__contains__" (defArgs s_Machine_contains) (defBody s_Machine_contains) (defScope s_Machine_contains) .none kV_Machine_contains dc_Machine_contains pm_Machine_contains an_Machine_contains cd_Machine_contains ct_Machine_contains), sl_Machine_contains⟩) (e_Machine_contains : PySem.W.codeIn K cd_Machine_contains "Machine.__contains__" = true) (k_Machine_contains : PySem.W.keepIn K (.ref f_Machine_contains) = true)
    {f_Machine_eq : Addr} {oc_Machine_eq kV_Machine_eq dc_Machine_eq pm_Machine_eq cd_Machine_eq ct_Machine_eq : Value} {od_Machine_eq an_Machine_eq : Option Addr} {sl_Machine_eq : Array (Option Value)}
    (a_Machine_eq : PySem.W.findIn K (.ref C_Machine) "__eq__" = some (some (.ref f_Machine_eq))) (i_Machine_eq : PySem.W.isFn K (.ref f_Machine_eq) = true)
    (l_Machine_eq : K.lookup f_Machine_eq = some ⟨oc_Machine_eq, od_Machine_eq, .func (PySem.W.fnOf "__eq__" "Machine.__eq__" (defArgs s_Machine_eq) (defBody s_Machine_eq) (defScope s_Machine_eq) .none kV_Machine_eq dc_Machine_eq pm_Machine_eq an_Machine_eq cd_Machine_eq ct_Machine_eq), sl_Machine_eq⟩) (e_Machine_eq : PySem.W.codeIn K cd_Machine_eq "Machine.__eq__" = true) (k_Machine_eq : PySem.W.keepIn K (.ref f_Machine_eq) = true)
    {f_Machine_repr : Addr} {oc_Machine_repr kV_Machine_repr dc_Machine_repr pm_Machine_repr cd_Machine_repr ct_Machine_repr : Value} {od_Machine_repr an_Machine_repr : Option Addr} {sl_Machine_repr : Array (Option Value)}
    (a_Machine_repr : PySem.W.findIn K (.ref C_Machine) "__repr__" = some (some (.ref f_Machine_repr))) (i_Machine_repr : PySem.W.isFn K (.ref f_Machine_repr) = true)
    (l_Machine_repr : K.lookup f_Machine_repr = some ⟨oc_Machine_repr, od_Machine_repr, .func (PySem.W.fnOf "__repr__" "Machine.__repr__" (defArgs s_Machine_repr) (defBody s_Machine_repr) (defScope s_Machine_repr) .none kV_Machine_repr dc_Machine_repr pm_Machine_repr an_Machine_repr cd_Machine_repr ct_Machine_repr), sl_Machine_repr⟩) (e_Machine_repr : PySem.W.codeIn K cd_Machine_repr "Machine.__repr__" = true) (k_Machine_repr : PySem.W.keepIn K (.ref f_Machine_repr) = true)
    {f_Machine_invert : Addr} {oc_Machine_invert kV_Machine_invert dc_Machine_invert pm_Machine_invert cd_Machine_invert ct_Machine_invert : Value} {od_Machine_invert an_Machine_invert : Option Addr} {sl_Machine_invert : Array (Option Value)}
    (a_Machine_invert : PySem.W.findIn K (.ref C_Machine) "__invert__" = some (some (.ref f_Machine_invert))) (i_Machine_invert : PySem.W.isFn K (.ref f_Machine_invert) = true)
    (l_Machine_invert : K.lookup f_Machine_invert = some ⟨oc_Machine_invert, od_Machine_invert, .func (PySem.W.fnOf "__invert__" "Machine.__invert__" (defArgs s_Machine_invert) (defBody s_Machine_invert) (defScope s_Machine_invert) .none kV_Machine_invert dc_Machine_invert pm_Machine_invert an_Machine_invert cd_Machine_invert ct_Machine_invert), sl_Machine_invert⟩) (e_Machine_invert : PySem.W.codeIn K cd_Machine_invert "Machine.__invert__" = true) (k_Machine_invert : PySem.W.keepIn K (.ref f_Machine_invert) = true)
    {f_Machine_letters : Addr} {oc_Machine_letters kV_Machine_letters dc_Machine_letters pm_Machine_letters cd_Machine_letters ct_Machine_letters : Value} {od_Machine_letters an_Machine_letters : Option Addr} {sl_Machine_letters : Array (Option Value)}
    {p_Machine_letters : Addr} {rest_Machine_letters : List Value} (a_Machine_letters : PySem.W.findIn K (.ref C_Machine) "letters" = some (some (.ref p_Machine_letters))) (pg_Machine_letters : PySem.W.specialIn K (.ref p_Machine_letters) "__get__" = some (some (.builtin "property.__get__"))) (pt_Machine_letters : PySem.W.takesIn K (.ref p_Machine_letters) = some true) (pr_Machine_letters : PySem.W.recIn K p_Machine_letters "property" = some (.ref f_Machine_letters :: rest_Machine_letters))
    (l_Machine_letters : K.lookup f_Machine_letters = some ⟨oc_Machine_letters, od_Machine_letters, .func (PySem.W.fnOf "letters" "Machine.letters" (defArgs s_Machine_letters) (defBody s_Machine_letters) (defScope s_Machine_letters) .none kV_Machine_letters dc_Machine_letters pm_Machine_letters an_Machine_letters cd_Machine_letters ct_Machine_letters), sl_Machine_letters⟩) (e_Machine_letters : PySem.W.codeIn K cd_Machine_letters "Machine.letters" = true) (k_Machine_letters : PySem.W.keepIn K (.ref f_Machine_letters) = true)
    {C_Sum : Addr} (a_Sum : PySem.W.nsIn K mainGlobals "Sum" = some (some (.ref C_Sum))) (pg_Sum : PySem.W.plainGet K C_Sum Str.empty = true) (hd_Sum : PySem.W.hasDictIn K C_Sum = true) (po_Sum : PySem.W.plainOver K C_Sum = true) (sa_Sum : PySem.W.findIn K (.ref C_Sum) "__setattr__" = some (some (.builtin "object.__setattr__"))) (mk_Sum : PySem.W.makesIn K C_Sum = true) (kc_Sum : PySem.W.keepIn K (.ref C_Sum) = true)
    (ca_Sum : PySem.W.findIn K (.ref C_Sum) "__class__" = some (some (.builtin "object.__class__"))) (cg_Sum : PySem.W.specialIn K (.builtin "object.__class__") "__get__" = some (some (.builtin "getset_descriptor.__get__"))) (ct_Sum : PySem.W.takesIn K (.builtin "object.__class__") = some true) (ne_Sum : PySem.W.findIn K (.ref C_Sum) "__ne__" = some (some (.builtin "object.__ne__"))) (tt_Sum : PySem.W.typeIn K (.ref C_Sum) = some (.type "type")) (cr_Sum : PySem.W.readsIn K C_Sum (.type "type") = true) (ck_Sum : PySem.W.specialIn K (.ref C_Sum) "__getattribute__" = some (some (.builtin "type.__getattribute__")))
    {C_MachineReader : Addr} (a_MachineReader : PySem.W.nsIn K mainGlobals "MachineReader" = some (some (.ref C_MachineReader))) (pg_MachineReader : PySem.W.plainGet K C_MachineReader Str.empty = true) (hd_MachineReader : PySem.W.hasDictIn K C_MachineReader = true) (po_MachineReader : PySem.W.plainOver K C_MachineReader = true) (sa_MachineReader : PySem.W.findIn K (.ref C_MachineReader) "__setattr__" = some (some (.builtin "object.__setattr__"))) (mk_MachineReader : PySem.W.makesIn K C_MachineReader = true) (kc_MachineReader : PySem.W.keepIn K (.ref C_MachineReader) = true)
    (ca_MachineReader : PySem.W.findIn K (.ref C_MachineReader) "__class__" = some (some (.builtin "object.__class__"))) (cg_MachineReader : PySem.W.specialIn K (.builtin "object.__class__") "__get__" = some (some (.builtin "getset_descriptor.__get__"))) (ct_MachineReader : PySem.W.takesIn K (.builtin "object.__class__") = some true) (ne_MachineReader : PySem.W.findIn K (.ref C_MachineReader) "__ne__" = some (some (.builtin "object.__ne__"))) (tt_MachineReader : PySem.W.typeIn K (.ref C_MachineReader) = some (.type "type")) (cr_MachineReader : PySem.W.readsIn K C_MachineReader (.type "type") = true) (ck_MachineReader : PySem.W.specialIn K (.ref C_MachineReader) "__getattribute__" = some (some (.builtin "type.__getattribute__")))
    (nf_MachineReader_own_letters : PySem.W.findIn K (.ref C_MachineReader) "own_letters" = some none)
    (nf_MachineReader_own_rows : PySem.W.findIn K (.ref C_MachineReader) "own_rows" = some none)
    (nf_MachineReader_own_kinds : PySem.W.findIn K (.ref C_MachineReader) "own_kinds" = some none)
    {f_MachineReader_init : Addr} {oc_MachineReader_init kV_MachineReader_init dc_MachineReader_init pm_MachineReader_init cd_MachineReader_init ct_MachineReader_init : Value} {od_MachineReader_init an_MachineReader_init : Option Addr} {sl_MachineReader_init : Array (Option Value)}
    (a_MachineReader_init : PySem.W.findIn K (.ref C_MachineReader) "__init__" = some (some (.ref f_MachineReader_init))) (i_MachineReader_init : PySem.W.isFn K (.ref f_MachineReader_init) = true)
    (l_MachineReader_init : K.lookup f_MachineReader_init = some ⟨oc_MachineReader_init, od_MachineReader_init, .func (PySem.W.fnOf "__init__" "MachineReader.__init__" (defArgs s_MachineReader_init) (defBody s_MachineReader_init) (defScope s_MachineReader_init) .none kV_MachineReader_init dc_MachineReader_init pm_MachineReader_init an_MachineReader_init cd_MachineReader_init ct_MachineReader_init), sl_MachineReader_init⟩) (e_MachineReader_init : PySem.W.codeIn K cd_MachineReader_init "MachineReader.__init__" = true) (k_MachineReader_init : PySem.W.keepIn K (.ref f_MachineReader_init) = true)
    {f_MachineReader_take : Addr} {oc_MachineReader_take kV_MachineReader_take dc_MachineReader_take pm_MachineReader_take cd_MachineReader_take ct_MachineReader_take : Value} {od_MachineReader_take an_MachineReader_take : Option Addr} {sl_MachineReader_take : Array (Option Value)}
    (a_MachineReader_take : PySem.W.findIn K (.ref C_MachineReader) "take" = some (some (.ref f_MachineReader_take))) (i_MachineReader_take : PySem.W.isFn K (.ref f_MachineReader_take) = true)
    (l_MachineReader_take : K.lookup f_MachineReader_take = some ⟨oc_MachineReader_take, od_MachineReader_take, .func (PySem.W.fnOf "take" "MachineReader.take" (defArgs s_MachineReader_take) (defBody s_MachineReader_take) (defScope s_MachineReader_take) .none kV_MachineReader_take dc_MachineReader_take pm_MachineReader_take an_MachineReader_take cd_MachineReader_take ct_MachineReader_take), sl_MachineReader_take⟩) (e_MachineReader_take : PySem.W.codeIn K cd_MachineReader_take "MachineReader.take" = true) (k_MachineReader_take : PySem.W.keepIn K (.ref f_MachineReader_take) = true)
    {f_MachineReader_take_place : Addr} {oc_MachineReader_take_place kV_MachineReader_take_place dc_MachineReader_take_place pm_MachineReader_take_place cd_MachineReader_take_place ct_MachineReader_take_place : Value} {od_MachineReader_take_place an_MachineReader_take_place : Option Addr} {sl_MachineReader_take_place : Array (Option Value)}
    (a_MachineReader_take_place : PySem.W.findIn K (.ref C_MachineReader) "take_place" = some (some (.ref f_MachineReader_take_place))) (i_MachineReader_take_place : PySem.W.isFn K (.ref f_MachineReader_take_place) = true)
    (l_MachineReader_take_place : K.lookup f_MachineReader_take_place = some ⟨oc_MachineReader_take_place, od_MachineReader_take_place, .func (PySem.W.fnOf "take_place" "MachineReader.take_place" (defArgs s_MachineReader_take_place) (defBody s_MachineReader_take_place) (defScope s_MachineReader_take_place) .none kV_MachineReader_take_place dc_MachineReader_take_place pm_MachineReader_take_place an_MachineReader_take_place cd_MachineReader_take_place ct_MachineReader_take_place), sl_MachineReader_take_place⟩) (e_MachineReader_take_place : PySem.W.codeIn K cd_MachineReader_take_place "MachineReader.take_place" = true) (k_MachineReader_take_place : PySem.W.keepIn K (.ref f_MachineReader_take_place) = true)
    {f_MachineReader_is_lacking : Addr} {oc_MachineReader_is_lacking kV_MachineReader_is_lacking dc_MachineReader_is_lacking pm_MachineReader_is_lacking cd_MachineReader_is_lacking ct_MachineReader_is_lacking : Value} {od_MachineReader_is_lacking an_MachineReader_is_lacking : Option Addr} {sl_MachineReader_is_lacking : Array (Option Value)}
    (a_MachineReader_is_lacking : PySem.W.findIn K (.ref C_MachineReader) "is_lacking" = some (some (.ref f_MachineReader_is_lacking))) (i_MachineReader_is_lacking : PySem.W.isFn K (.ref f_MachineReader_is_lacking) = true)
    (l_MachineReader_is_lacking : K.lookup f_MachineReader_is_lacking = some ⟨oc_MachineReader_is_lacking, od_MachineReader_is_lacking, .func (PySem.W.fnOf "is_lacking" "MachineReader.is_lacking" (defArgs s_MachineReader_is_lacking) (defBody s_MachineReader_is_lacking) (defScope s_MachineReader_is_lacking) .none kV_MachineReader_is_lacking dc_MachineReader_is_lacking pm_MachineReader_is_lacking an_MachineReader_is_lacking cd_MachineReader_is_lacking ct_MachineReader_is_lacking), sl_MachineReader_is_lacking⟩) (e_MachineReader_is_lacking : PySem.W.codeIn K cd_MachineReader_is_lacking "MachineReader.is_lacking" = true) (k_MachineReader_is_lacking : PySem.W.keepIn K (.ref f_MachineReader_is_lacking) = true)
    {f_MachineReader_made : Addr} {oc_MachineReader_made kV_MachineReader_made dc_MachineReader_made pm_MachineReader_made cd_MachineReader_made ct_MachineReader_made : Value} {od_MachineReader_made an_MachineReader_made : Option Addr} {sl_MachineReader_made : Array (Option Value)}
    (a_MachineReader_made : PySem.W.findIn K (.ref C_MachineReader) "made" = some (some (.ref f_MachineReader_made))) (i_MachineReader_made : PySem.W.isFn K (.ref f_MachineReader_made) = true)
    (l_MachineReader_made : K.lookup f_MachineReader_made = some ⟨oc_MachineReader_made, od_MachineReader_made, .func (PySem.W.fnOf "made" "MachineReader.made" (defArgs s_MachineReader_made) (defBody s_MachineReader_made) (defScope s_MachineReader_made) .none kV_MachineReader_made dc_MachineReader_made pm_MachineReader_made an_MachineReader_made cd_MachineReader_made ct_MachineReader_made), sl_MachineReader_made⟩) (e_MachineReader_made : PySem.W.codeIn K cd_MachineReader_made "MachineReader.made" = true) (k_MachineReader_made : PySem.W.keepIn K (.ref f_MachineReader_made) = true)
    {C_SumReader : Addr} (a_SumReader : PySem.W.nsIn K mainGlobals "SumReader" = some (some (.ref C_SumReader))) (pg_SumReader : PySem.W.plainGet K C_SumReader Str.empty = true) (hd_SumReader : PySem.W.hasDictIn K C_SumReader = true) (po_SumReader : PySem.W.plainOver K C_SumReader = true) (sa_SumReader : PySem.W.findIn K (.ref C_SumReader) "__setattr__" = some (some (.builtin "object.__setattr__"))) (mk_SumReader : PySem.W.makesIn K C_SumReader = true) (kc_SumReader : PySem.W.keepIn K (.ref C_SumReader) = true)
    (ca_SumReader : PySem.W.findIn K (.ref C_SumReader) "__class__" = some (some (.builtin "object.__class__"))) (cg_SumReader : PySem.W.specialIn K (.builtin "object.__class__") "__get__" = some (some (.builtin "getset_descriptor.__get__"))) (ct_SumReader : PySem.W.takesIn K (.builtin "object.__class__") = some true) (ne_SumReader : PySem.W.findIn K (.ref C_SumReader) "__ne__" = some (some (.builtin "object.__ne__"))) (tt_SumReader : PySem.W.typeIn K (.ref C_SumReader) = some (.type "type")) (cr_SumReader : PySem.W.readsIn K C_SumReader (.type "type") = true) (ck_SumReader : PySem.W.specialIn K (.ref C_SumReader) "__getattribute__" = some (some (.builtin "type.__getattribute__")))
    (nf_SumReader_own_letters : PySem.W.findIn K (.ref C_SumReader) "own_letters" = some none)
    (nf_SumReader_own_told : PySem.W.findIn K (.ref C_SumReader) "own_told" = some none)
    {f_SumReader_init : Addr} {oc_SumReader_init kV_SumReader_init dc_SumReader_init pm_SumReader_init cd_SumReader_init ct_SumReader_init : Value} {od_SumReader_init an_SumReader_init : Option Addr} {sl_SumReader_init : Array (Option Value)}
    (a_SumReader_init : PySem.W.findIn K (.ref C_SumReader) "__init__" = some (some (.ref f_SumReader_init))) (i_SumReader_init : PySem.W.isFn K (.ref f_SumReader_init) = true)
    (l_SumReader_init : K.lookup f_SumReader_init = some ⟨oc_SumReader_init, od_SumReader_init, .func (PySem.W.fnOf "__init__" "SumReader.__init__" (defArgs s_SumReader_init) (defBody s_SumReader_init) (defScope s_SumReader_init) .none kV_SumReader_init dc_SumReader_init pm_SumReader_init an_SumReader_init cd_SumReader_init ct_SumReader_init), sl_SumReader_init⟩) (e_SumReader_init : PySem.W.codeIn K cd_SumReader_init "SumReader.__init__" = true) (k_SumReader_init : PySem.W.keepIn K (.ref f_SumReader_init) = true)
    {f_SumReader_take : Addr} {oc_SumReader_take kV_SumReader_take dc_SumReader_take pm_SumReader_take cd_SumReader_take ct_SumReader_take : Value} {od_SumReader_take an_SumReader_take : Option Addr} {sl_SumReader_take : Array (Option Value)}
    (a_SumReader_take : PySem.W.findIn K (.ref C_SumReader) "take" = some (some (.ref f_SumReader_take))) (i_SumReader_take : PySem.W.isFn K (.ref f_SumReader_take) = true)
    (l_SumReader_take : K.lookup f_SumReader_take = some ⟨oc_SumReader_take, od_SumReader_take, .func (PySem.W.fnOf "take" "SumReader.take" (defArgs s_SumReader_take) (defBody s_SumReader_take) (defScope s_SumReader_take) .none kV_SumReader_take dc_SumReader_take pm_SumReader_take an_SumReader_take cd_SumReader_take ct_SumReader_take), sl_SumReader_take⟩) (e_SumReader_take : PySem.W.codeIn K cd_SumReader_take "SumReader.take" = true) (k_SumReader_take : PySem.W.keepIn K (.ref f_SumReader_take) = true)
    {f_SumReader_is_lacking : Addr} {oc_SumReader_is_lacking kV_SumReader_is_lacking dc_SumReader_is_lacking pm_SumReader_is_lacking cd_SumReader_is_lacking ct_SumReader_is_lacking : Value} {od_SumReader_is_lacking an_SumReader_is_lacking : Option Addr} {sl_SumReader_is_lacking : Array (Option Value)}
    (a_SumReader_is_lacking : PySem.W.findIn K (.ref C_SumReader) "is_lacking" = some (some (.ref f_SumReader_is_lacking))) (i_SumReader_is_lacking : PySem.W.isFn K (.ref f_SumReader_is_lacking) = true)
    (l_SumReader_is_lacking : K.lookup f_SumReader_is_lacking = some ⟨oc_SumReader_is_lacking, od_SumReader_is_lacking, .func (PySem.W.fnOf "is_lacking" "SumReader.is_lacking" (defArgs s_SumReader_is_lacking) (defBody s_SumReader_is_lacking) (defScope s_SumReader_is_lacking) .none kV_SumReader_is_lacking dc_SumReader_is_lacking pm_SumReader_is_lacking an_SumReader_is_lacking cd_SumReader_is_lacking ct_SumReader_is_lacking), sl_SumReader_is_lacking⟩) (e_SumReader_is_lacking : PySem.W.codeIn K cd_SumReader_is_lacking "SumReader.is_lacking" = true) (k_SumReader_is_lacking : PySem.W.keepIn K (.ref f_SumReader_is_lacking) = true)
    {f_SumReader_made : Addr} {oc_SumReader_made kV_SumReader_made dc_SumReader_made pm_SumReader_made cd_SumReader_made ct_SumReader_made : Value} {od_SumReader_made an_SumReader_made : Option Addr} {sl_SumReader_made : Array (Option Value)}
    (a_SumReader_made : PySem.W.findIn K (.ref C_SumReader) "made" = some (some (.ref f_SumReader_made))) (i_SumReader_made : PySem.W.isFn K (.ref f_SumReader_made) = true)
    (l_SumReader_made : K.lookup f_SumReader_made = some ⟨oc_SumReader_made, od_SumReader_made, .func (PySem.W.fnOf "made" "SumReader.made" (defArgs s_SumReader_made) (defBody s_SumReader_made) (defScope s_SumReader_made) .none kV_SumReader_made dc_SumReader_made pm_SumReader_made an_SumReader_made cd_SumReader_made ct_SumReader_made), sl_SumReader_made⟩) (e_SumReader_made : PySem.W.codeIn K cd_SumReader_made "SumReader.made" = true) (k_SumReader_made : PySem.W.keepIn K (.ref f_SumReader_made) = true)
    {C_InvalidRow fi_InvalidRow pr_InvalidRow N_InvalidRow cda_InvalidRow cc_InvalidRow : Addr} {nm_InvalidRow q_InvalidRow : Str} {bs_InvalidRow : List Value} {sn_InvalidRow : List Str} {sub_InvalidRow : List Value} {ab_InvalidRow : Bool} {col_InvalidRow : Option Bool} {dd_InvalidRow : Option Addr} {k0_InvalidRow k1_InvalidRow k2_InvalidRow k3_InvalidRow k5_InvalidRow : Option Value} {kV_InvalidRow doc_InvalidRow pm_InvalidRow ct_InvalidRow oc_InvalidRow ccl_InvalidRow cl_InvalidRow : Value} {an_InvalidRow od_InvalidRow cdd_InvalidRow cld_InvalidRow : Option Addr} {osl_InvalidRow ccs_InvalidRow csl_InvalidRow : Array (Option Value)} {vs_InvalidRow : Array Value} {file_InvalidRow : Str} {tf_InvalidRow : Tok}
    (a_InvalidRow : PySem.W.nsIn K mainGlobals "InvalidRow" = some (some (.ref C_InvalidRow))) (lc_InvalidRow : K.lookup C_InvalidRow = some (excClassObj nm_InvalidRow q_InvalidRow C_InvalidRow N_InvalidRow bs_InvalidRow (.ref pr_InvalidRow :: [.type "ValueError", .type "Exception", .type "BaseException", .type "object"]) true sn_InvalidRow sub_InvalidRow ab_InvalidRow col_InvalidRow dd_InvalidRow k0_InvalidRow k1_InvalidRow k2_InvalidRow k3_InvalidRow k5_InvalidRow "ValueError.__new__"))
    (ii_InvalidRow : PySem.W.findIn K (.ref C_InvalidRow) "__init__" = some (some (.ref fi_InvalidRow))) (li_InvalidRow : K.lookup fi_InvalidRow = some ⟨oc_InvalidRow, od_InvalidRow, .func (PySem.W.ksFn "__init__" "InvalidRow.__init__" (defArgs s_InvalidRow_init) (defBody s_InvalidRow_init) (defScope s_InvalidRow_init) .none kV_InvalidRow doc_InvalidRow pm_InvalidRow an_InvalidRow (.ref cda_InvalidRow) ct_InvalidRow cc_InvalidRow), osl_InvalidRow⟩) (ei_InvalidRow : PySem.W.codeIn K (.ref cda_InvalidRow) "InvalidRow.__init__" = true)
    (lk_InvalidRow : K.lookup cda_InvalidRow = some ⟨ccl_InvalidRow, cdd_InvalidRow, .fields vs_InvalidRow, ccs_InvalidRow⟩) (v2_InvalidRow : vs_InvalidRow[2]? = some (.str file_InvalidRow tf_InvalidRow)) (fl_InvalidRow : ((PW.main.file : Str) == file_InvalidRow) = true) (lcc_InvalidRow : K.lookup cc_InvalidRow = some ⟨cl_InvalidRow, cld_InvalidRow, .cell (some (.ref C_InvalidRow)), csl_InvalidRow⟩)
    (su_InvalidRow : PySem.W.ks_superIn K C_InvalidRow C_InvalidRow "__init__" = some (some (.builtin "ValueError.__init__"))) (se_InvalidRow : PySem.W.mroIn K C_InvalidRow (.ref C_InvalidRow) = some true) (sb_InvalidRow : PySem.W.subIn K (.ref C_InvalidRow) (.type "ValueError") = some true) (op_InvalidRow : PySem.W.nsIn K cStatics "thirdparty.any" = some none) (tp_InvalidRow : (PW.main.scope.names.lookup ("super" : Str)).isSome = false)
    (sa_InvalidRow : PySem.W.findIn K (.ref C_InvalidRow) "__setattr__" = some (some (.builtin "object.__setattr__"))) (ti_InvalidRow : PySem.W.typeIn K (.ref fi_InvalidRow) = some (.type "function")) (kc_InvalidRow : PySem.W.keepIn K (.ref C_InvalidRow) = true) (ex_InvalidRow : PySem.W.subIn K (.ref C_InvalidRow) (.type "BaseException") = some true) (ty_InvalidRow : PySem.W.typeIn K (.ref C_InvalidRow) = some (.type "type"))
    (ga_InvalidRow : PySem.W.findIn K (.ref C_InvalidRow) "__getattribute__" = some (some (.builtin "BaseException.__getattribute__"))) (gg_InvalidRow : PySem.W.findIn K (.ref C_InvalidRow) "__getattr__" = some none) (hdc_InvalidRow : PySem.W.hasDictIn K C_InvalidRow = true) (ss_InvalidRow : PySem.W.subIn K (.ref C_InvalidRow) (.ref C_InvalidRow) = some true)
    (nf_InvalidRow_row : PySem.W.findIn K (.ref C_InvalidRow) "row" = some none)
    (xa_InvalidRow : PySem.W.findIn K (.ref C_InvalidRow) "__class__" = some (some (.builtin "object.__class__"))) (xn_InvalidRow : PySem.W.specialIn K (.builtin "object.__class__") "__get__" = some (some (.builtin "getset_descriptor.__get__"))) (xt_InvalidRow : PySem.W.takesIn K (.builtin "object.__class__") = some true) (xm_InvalidRow : PySem.W.mroIn K C_InvalidRow (.type "object") = some true)
    {C_PartsError : Addr} (a_PartsError : PySem.W.nsIn K mainGlobals "PartsError" = some (some (.ref C_PartsError))) (hd_PartsError : PySem.W.hasDictIn K C_PartsError = true) (tt_PartsError : PySem.W.typeIn K (.ref C_PartsError) = some (.type "type"))
    (su_InvalidRow_PartsError : PySem.W.subIn K (.ref C_InvalidRow) (.ref C_PartsError) = some true)
    (su_InvalidRow_ValueError : PySem.W.subIn K (.ref C_InvalidRow) (.type "ValueError") = some true)
    (z_ValueError : PySem.W.nsIn K mainGlobals "ValueError" = some none)
    (z_abs : PySem.W.nsIn K mainGlobals "abs" = some none)
    (z_all : PySem.W.nsIn K mainGlobals "all" = some none)
    (z_any : PySem.W.nsIn K mainGlobals "any" = some none)
    (z_bool : PySem.W.nsIn K mainGlobals "bool" = some none)
    (z_dict : PySem.W.nsIn K mainGlobals "dict" = some none)
    (z_divmod : PySem.W.nsIn K mainGlobals "divmod" = some none)
    (z_enumerate : PySem.W.nsIn K mainGlobals "enumerate" = some none)
    (z_int : PySem.W.nsIn K mainGlobals "int" = some none)
    (z_isinstance : PySem.W.nsIn K mainGlobals "isinstance" = some none)
    (z_len : PySem.W.nsIn K mainGlobals "len" = some none)
    (z_list : PySem.W.nsIn K mainGlobals "list" = some none)
    (z_max : PySem.W.nsIn K mainGlobals "max" = some none)
    (z_min : PySem.W.nsIn K mainGlobals "min" = some none)
    (z_ord : PySem.W.nsIn K mainGlobals "ord" = some none)
    (z_property : PySem.W.nsIn K mainGlobals "property" = some none)
    (z_range : PySem.W.nsIn K mainGlobals "range" = some none)
    (z_repr : PySem.W.nsIn K mainGlobals "repr" = some none)
    (z_set : PySem.W.nsIn K mainGlobals "set" = some none)
    (z_sorted : PySem.W.nsIn K mainGlobals "sorted" = some none)
    (z_str : PySem.W.nsIn K mainGlobals "str" = some none)
    (z_super : PySem.W.nsIn K mainGlobals "super" = some none)
    (z_tuple : PySem.W.nsIn K mainGlobals "tuple" = some none)
    (z_zip : PySem.W.nsIn K mainGlobals "zip" = some none)
    {t_SMALL_basics : Tok} (y_SMALL_basics : PySem.W.nsIn K mainGlobals "SMALL_basics" = some (some (.str "abcdefghijklmnopqrstuvwxyz" t_SMALL_basics)))
    {t_MOST_LETTERS : Tok} (y_MOST_LETTERS : PySem.W.nsIn K mainGlobals "MOST_LETTERS" = some (some (.int 3 t_MOST_LETTERS)))
    {t_SMALL_products : Tok} (y_SMALL_products : PySem.W.nsIn K mainGlobals "SMALL_products" = some (some (.str "abcdefghijklmnopqrstuvwxyz" t_SMALL_products)))
    {t_STAR : Tok} (y_STAR : PySem.W.nsIn K mainGlobals "STAR" = some (some (.str "*" t_STAR)))
    {t_MOST_IN_STAR : Tok} (y_MOST_IN_STAR : PySem.W.nsIn K mainGlobals "MOST_IN_STAR" = some (some (.int 3 t_MOST_IN_STAR)))
    {t_MOST_PIECES : Tok} (y_MOST_PIECES : PySem.W.nsIn K mainGlobals "MOST_PIECES" = some (some (.int 12 t_MOST_PIECES)))
    {t_LOST : Tok} (y_LOST : PySem.W.nsIn K mainGlobals "LOST" = some (some (.int (-1) t_LOST)))
    {t_MOST_PARTS_LETTERS : Tok} (y_MOST_PARTS_LETTERS : PySem.W.nsIn K mainGlobals "MOST_PARTS_LETTERS" = some (some (.int 60 t_MOST_PARTS_LETTERS)))
    {t_MOST_TEXTS : Tok} (y_MOST_TEXTS : PySem.W.nsIn K mainGlobals "MOST_TEXTS" = some (some (.int 8 t_MOST_TEXTS)))
    {t_MOST_WITHOUT_LETTERS : Tok} (y_MOST_WITHOUT_LETTERS : PySem.W.nsIn K mainGlobals "MOST_WITHOUT_LETTERS" = some (some (.int 8 t_MOST_WITHOUT_LETTERS)))
    {t_DIGITS : Tok} (y_DIGITS : PySem.W.nsIn K mainGlobals "DIGITS" = some (some (.str "0123456789" t_DIGITS)))
    {A_KINDS : Addr} (a_KINDS : PySem.W.nsIn K mainGlobals "KINDS" = some (some (.ref A_KINDS)))
    : ∃ T : All K mg, T.f_law = f_law ∧ T.d_law_right.code = cd_law_right := by
  have F_is_integer := fun_mk (st := s_is_integer) l_is_integer e_is_integer k_is_integer
  have B_is_integer := F_is_integer.binds (ps := ["value"]) fun _ _ _ _ _ _ us hl => match us, hl with | [_], _ => rfl
  have F_is_list := fun_mk (st := s_is_list) l_is_list e_is_list k_is_list
  have B_is_list := F_is_list.binds (ps := ["value"]) fun _ _ _ _ _ _ us hl => match us, hl with | [_], _ => rfl
  have F_is_text := fun_mk (st := s_is_text) l_is_text e_is_text k_is_text
  have B_is_text := F_is_text.binds (ps := ["value"]) fun _ _ _ _ _ _ us hl => match us, hl with | [_], _ => rfl
  have F_are_letters := fun_mk (st := s_are_letters) l_are_letters e_are_letters k_are_letters
  have B_are_letters := F_are_letters.binds (ps := ["value"]) fun _ _ _ _ _ _ us hl => match us, hl with | [_], _ => rfl
  have F_is_text_over := fun_mk (st := s_is_text_over) l_is_text_over e_is_text_over k_is_text_over
  have B_is_text_over := F_is_text_over.binds (ps := ["letters", "value"]) fun _ _ _ _ _ _ us hl => match us, hl with | [_, _], _ => rfl
  have F_want_few := fun_mk (st := s_want_few) l_want_few e_want_few k_want_few
  have B_want_few := F_want_few.binds (ps := ["what", "many", "limit"]) fun _ _ _ _ _ _ us hl => match us, hl with | [_, _, _], _ => rfl
  have F_is_row := fun_mk (st := s_is_row) l_is_row e_is_row k_is_row
  have B_is_row := F_is_row.binds (ps := ["value", "size", "many"]) fun _ _ _ _ _ _ us hl => match us, hl with | [_, _, _], _ => rfl
  have F_want_machine := fun_mk (st := s_want_machine) l_want_machine e_want_machine k_want_machine
  have B_want_machine := F_want_machine.binds (ps := ["letters", "rows", "kinds"]) fun _ _ _ _ _ _ us hl => match us, hl with | [_, _, _], _ => rfl
  have F_met_from := fun_mk (st := s_met_from) l_met_from e_met_from k_met_from
  have B_met_from := F_met_from.binds (ps := ["rows", "start"]) fun _ _ _ _ _ _ us hl => match us, hl with | [_, _], _ => rfl
  have F_want_text := fun_mk (st := s_want_text) l_want_text e_want_text k_want_text
  have B_want_text := F_want_text.binds (ps := ["letters", "text"]) fun _ _ _ _ _ _ us hl => match us, hl with | [_, _], _ => rfl
  have F_want_place := fun_mk (st := s_want_place) l_want_place e_want_place k_want_place
  have B_want_place := F_want_place.binds (ps := ["machine", "place"]) fun _ _ _ _ _ _ us hl => match us, hl with | [_, _], _ => rfl
  have F_led := fun_mk (st := s_led) l_led e_led k_led
  have B_led := F_led.binds (ps := ["machine", "place", "text"]) fun _ _ _ _ _ _ us hl => match us, hl with | [_, _, _], _ => rfl
  have F_is_taken := fun_mk (st := s_is_taken) l_is_taken e_is_taken k_is_taken
  have B_is_taken := F_is_taken.binds (ps := ["machine", "text"]) fun _ _ _ _ _ _ us hl => match us, hl with | [_, _], _ => rfl
  have F_contrary := fun_mk (st := s_contrary) l_contrary e_contrary k_contrary
  have B_contrary := F_contrary.binds (ps := ["machine"]) fun _ _ _ _ _ _ us hl => match us, hl with | [_], _ => rfl
  have F_line_of := fun_mk (st := s_line_of) l_line_of e_line_of k_line_of
  have B_line_of := F_line_of.binds (ps := ["words"]) fun _ _ _ _ _ _ us hl => match us, hl with | [_], _ => rfl
  have F_machine_lines := fun_mk (st := s_machine_lines) l_machine_lines e_machine_lines k_machine_lines
  have B_machine_lines := F_machine_lines.binds (ps := ["machine"]) fun _ _ _ _ _ _ us hl => match us, hl with | [_], _ => rfl
  have F_text_of := fun_mk (st := s_text_of) l_text_of e_text_of k_text_of
  have B_text_of := F_text_of.binds (ps := ["entry"]) fun _ _ _ _ _ _ us hl => match us, hl with | [_], _ => rfl
  have F_bytes_of := fun_mk (st := s_bytes_of) l_bytes_of e_bytes_of k_bytes_of
  have B_bytes_of := F_bytes_of.binds (ps := ["entry"]) fun _ _ _ _ _ _ us hl => match us, hl with | [_], _ => rfl
  have F_goal_of := fun_mk (st := s_goal_of) l_goal_of e_goal_of k_goal_of
  have B_goal_of := F_goal_of.binds (ps := ["word"]) fun _ _ _ _ _ _ us hl => match us, hl with | [_], _ => rfl
  have F_read_by := fun_mk (st := s_read_by) l_read_by e_read_by k_read_by
  have B_read_by := F_read_by.binds (ps := ["reader", "written"]) fun _ _ _ _ _ _ us hl => match us, hl with | [_, _], _ => rfl
  have F_read_machine := fun_mk (st := s_read_machine) l_read_machine e_read_machine k_read_machine
  have B_read_machine := F_read_machine.binds (ps := ["written"]) fun _ _ _ _ _ _ us hl => match us, hl with | [_], _ => rfl
  have F_read_sum := fun_mk (st := s_read_sum) l_read_sum e_read_sum k_read_sum
  have B_read_sum := F_read_sum.binds (ps := ["written"]) fun _ _ _ _ _ _ us hl => match us, hl with | [_], _ => rfl
  have F_law_pot := fun_mk (st := s_law_pot) l_law_pot e_law_pot k_law_pot
  have B_law_pot := F_law_pot.binds (ps := ["_law_script", "_law_k"]) fun _ _ _ _ _ _ us hl => match us, hl with | [_, _], _ => rfl
  have F_law_draw := fun_mk (st := s_law_draw) l_law_draw e_law_draw k_law_draw
  have B_law_draw := F_law_draw.binds (ps := ["_law_pot_here", "_law_sides"]) fun _ _ _ _ _ _ us hl => match us, hl with | [_, _], _ => rfl
  have F_law_pick := fun_mk (st := s_law_pick) l_law_pick e_law_pick k_law_pick
  have B_law_pick := F_law_pick.binds (ps := ["_law_pot_here", "_law_some"]) fun _ _ _ _ _ _ us hl => match us, hl with | [_, _], _ => rfl
  have F_law_met := fun_mk (st := s_law_met) l_law_met e_law_met k_law_met
  have B_law_met := F_law_met.binds (ps := ["_law_lines_here", "_law_sorts"]) fun _ _ _ _ _ _ us hl => match us, hl with | [_, _], _ => rfl
  have F_law_lines := fun_mk (st := s_law_lines) l_law_lines e_law_lines k_law_lines
  have B_law_lines := F_law_lines.binds (ps := ["_law_pot_here", "_law_size", "_law_most"]) fun _ _ _ _ _ _ us hl => match us, hl with | [_, _, _], _ => rfl
  have F_law_text := fun_mk (st := s_law_text) l_law_text e_law_text k_law_text
  have B_law_text := F_law_text.binds (ps := ["_law_signs", "_law_rows_now", "_law_kinds_now"]) fun _ _ _ _ _ _ us hl => match us, hl with | [_, _, _], _ => rfl
  have F_law_line := fun_mk (st := s_law_line) l_law_line e_law_line k_law_line
  have B_law_line := F_law_line.binds (ps := ["_law_call"]) fun _ _ _ _ _ _ us hl => match us, hl with | [_], _ => rfl
  have F_law_mixed := fun_mk (st := s_law_mixed) l_law_mixed e_law_mixed k_law_mixed
  have B_law_mixed := F_law_mixed.binds (ps := ["_law_pot_here", "_law_lines_here", "_law_sorts"]) fun _ _ _ _ _ _ us hl => match us, hl with | [_, _, _], _ => rfl
  have F_law_goes := fun_mk (st := s_law_goes) l_law_goes e_law_goes k_law_goes
  have B_law_goes := F_law_goes.binds (ps := ["_law_lines_here", "_law_signs", "_law_text_here"]) fun _ _ _ _ _ _ us hl => match us, hl with | [_, _, _], _ => rfl
  have F_law_asked_right := fun_mk (st := s_law_asked_right) l_law_asked_right e_law_asked_right k_law_asked_right
  have B_law_asked_right := F_law_asked_right.binds (ps := ["_law_pot_here", "_law_back", "_law_signs", "_law_lines_here", "_law_sorts"]) fun _ _ _ _ _ _ us hl => match us, hl with | [_, _, _, _, _], _ => rfl
  have F_law_plan := fun_mk (st := s_law_plan) l_law_plan e_law_plan k_law_plan
  have B_law_plan := F_law_plan.binds (ps := ["_law_pot_here", "_law_size"]) fun _ _ _ _ _ _ us hl => match us, hl with | [_, _], _ => rfl
  have F_law_right := fun_mk (st := s_law_right) l_law_right e_law_right k_law_right
  have B_law_right := F_law_right.binds (ps := ["_law_pot_here"]) fun _ _ _ _ _ _ us hl => match us, hl with | [_], _ => rfl
  have F_law := fun_mk (st := s_law) l_law e_law k_law
  have B_law := F_law.binds (ps := ["_law_script"]) fun _ _ _ _ _ _ us hl => match us, hl with | [_], _ => rfl
  have F_Machine_init := fun_mk (st := s_Machine_init) l_Machine_init e_Machine_init k_Machine_init
  have B_Machine_init := F_Machine_init.binds (ps := ["self", "letters", "rows", "kinds"]) fun _ _ _ _ _ _ us hl => match us, hl with | [_, _, _, _], _ => rfl
  have F_Machine_rows := fun_mk (st := s_Machine_rows) l_Machine_rows e_Machine_rows k_Machine_rows
  have B_Machine_rows := F_Machine_rows.binds (ps := ["self"]) fun _ _ _ _ _ _ us hl => match us, hl with | [_], _ => rfl
  have F_Machine_kinds := fun_mk (st := s_Machine_kinds) l_Machine_kinds e_Machine_kinds k_Machine_kinds
  have B_Machine_kinds := F_Machine_kinds.binds (ps := ["self"]) fun _ _ _ _ _ _ us hl => match us, hl with | [_], _ => rfl
  have F_Machine_goes := fun_mk (st := s_Machine_goes) l_Machine_goes e_Machine_goes k_Machine_goes
  have B_Machine_goes := F_Machine_goes.binds (ps := ["self", "place", "text"]) fun _ _ _ _ _ _ us hl => match us, hl with | [_, _, _], _ => rfl
  have F_Machine_takes := fun_mk (st := s_Machine_takes) l_Machine_takes e_Machine_takes k_Machine_takes
  have B_Machine_takes := F_Machine_takes.binds (ps := ["self", "text"]) fun _ _ _ _ _ _ us hl => match us, hl with | [_, _], _ => rfl
  have F_Machine_len := fun_mk (st := s_Machine_len) l_Machine_len e_Machine_len k_Machine_len
  have B_Machine_len := F_Machine_len.binds (ps := ["self"]) fun _ _ _ _ _ _ us hl => match us, hl with | [_], _ => rfl
  have F_Machine_contains := fun_mk (st := s_Machine_contains) l_Machine_contains e_Machine_contains k_Machine_contains
  have B_Machine_contains := F_Machine_contains.binds (ps := ["self", "value"]) fun _ _ _ _ _ _ us hl => match us, hl with | [_, _], _ => rfl
  have F_Machine_eq := fun_mk (st := s_Machine_eq) l_Machine_eq e_Machine_eq k_Machine_eq
  have B_Machine_eq := F_Machine_eq.binds (ps := ["self", "other"]) fun _ _ _ _ _ _ us hl => match us, hl with | [_, _], _ => rfl
  have F_Machine_repr := fun_mk (st := s_Machine_repr) l_Machine_repr e_Machine_repr k_Machine_repr
  have B_Machine_repr := F_Machine_repr.binds (ps := ["self"]) fun _ _ _ _ _ _ us hl => match us, hl with | [_], _ => rfl
  have F_Machine_invert := fun_mk (st := s_Machine_invert) l_Machine_invert e_Machine_invert k_Machine_invert
  have B_Machine_invert := F_Machine_invert.binds (ps := ["self"]) fun _ _ _ _ _ _ us hl => match us, hl with | [_], _ => rfl
  have F_Machine_letters := fun_mk (st := s_Machine_letters) l_Machine_letters e_Machine_letters k_Machine_letters
  have B_Machine_letters := F_Machine_letters.binds (ps := ["self"]) fun _ _ _ _ _ _ us hl => match us, hl with | [_], _ => rfl
  have F_MachineReader_init := fun_mk (st := s_MachineReader_init) l_MachineReader_init e_MachineReader_init k_MachineReader_init
  have B_MachineReader_init := F_MachineReader_init.binds (ps := ["self"]) fun _ _ _ _ _ _ us hl => match us, hl with | [_], _ => rfl
  have F_MachineReader_take := fun_mk (st := s_MachineReader_take) l_MachineReader_take e_MachineReader_take k_MachineReader_take
  have B_MachineReader_take := F_MachineReader_take.binds (ps := ["self", "line"]) fun _ _ _ _ _ _ us hl => match us, hl with | [_, _], _ => rfl
  have F_MachineReader_take_place := fun_mk (st := s_MachineReader_take_place) l_MachineReader_take_place e_MachineReader_take_place k_MachineReader_take_place
  have B_MachineReader_take_place := F_MachineReader_take_place.binds (ps := ["self", "words"]) fun _ _ _ _ _ _ us hl => match us, hl with | [_, _], _ => rfl
  have F_MachineReader_is_lacking := fun_mk (st := s_MachineReader_is_lacking) l_MachineReader_is_lacking e_MachineReader_is_lacking k_MachineReader_is_lacking
  have B_MachineReader_is_lacking := F_MachineReader_is_lacking.binds (ps := ["self"]) fun _ _ _ _ _ _ us hl => match us, hl with | [_], _ => rfl
  have F_MachineReader_made := fun_mk (st := s_MachineReader_made) l_MachineReader_made e_MachineReader_made k_MachineReader_made
  have B_MachineReader_made := F_MachineReader_made.binds (ps := ["self"]) fun _ _ _ _ _ _ us hl => match us, hl with | [_], _ => rfl
  have F_SumReader_init := fun_mk (st := s_SumReader_init) l_SumReader_init e_SumReader_init k_SumReader_init
  have B_SumReader_init := F_SumReader_init.binds (ps := ["self"]) fun _ _ _ _ _ _ us hl => match us, hl with | [_], _ => rfl
  have F_SumReader_take := fun_mk (st := s_SumReader_take) l_SumReader_take e_SumReader_take k_SumReader_take
  have B_SumReader_take := F_SumReader_take.binds (ps := ["self", "line"]) fun _ _ _ _ _ _ us hl => match us, hl with | [_, _], _ => rfl
  have F_SumReader_is_lacking := fun_mk (st := s_SumReader_is_lacking) l_SumReader_is_lacking e_SumReader_is_lacking k_SumReader_is_lacking
  have B_SumReader_is_lacking := F_SumReader_is_lacking.binds (ps := ["self"]) fun _ _ _ _ _ _ us hl => match us, hl with | [_], _ => rfl
  have F_SumReader_made := fun_mk (st := s_SumReader_made) l_SumReader_made e_SumReader_made k_SumReader_made
  have B_SumReader_made := F_SumReader_made.binds (ps := ["self"]) fun _ _ _ _ _ _ us hl => match us, hl with | [_], _ => rfl
  have EF_InvalidRow := errF_mk (P := PW) (ps := ["self", "row"]) PySem.F.excBase_ValueError PySem.W.kxs_ValueError (by decide +kernel) PySem.F.store_ValueError.passes lc_InvalidRow li_InvalidRow ei_InvalidRow lk_InvalidRow v2_InvalidRow fl_InvalidRow lcc_InvalidRow (fun s us hl => match us, hl with | [_, _], _ => .of_eq rfl) su_InvalidRow se_InvalidRow sb_InvalidRow op_InvalidRow (PySem.W.mg_none_of X G z_super) tp_InvalidRow sa_InvalidRow ii_InvalidRow ti_InvalidRow kc_InvalidRow ex_InvalidRow ty_InvalidRow
  exact ⟨⟨_, PySem.W.mg_of X G a_InvalidRow, ⟨_, _, _, _, _, _, _, _, ⟨EF_InvalidRow, es_InvalidRow⟩, eb_InvalidRow, nf_InvalidRow_row⟩, ⟨ga_InvalidRow, gg_InvalidRow, ex_InvalidRow, hdc_InvalidRow⟩, PySem.W.exm_ref ex_InvalidRow hdc_InvalidRow ty_InvalidRow ss_InvalidRow,
    nf_InvalidRow_row,
    _, _, ⟨F_is_integer, B_is_integer, PySem.W.mg_of X G a_is_integer⟩,
    _, _, ⟨F_is_list, B_is_list, PySem.W.mg_of X G a_is_list⟩,
    _, _, ⟨F_is_text, B_is_text, PySem.W.mg_of X G a_is_text⟩,
    _, _, ⟨F_are_letters, B_are_letters, PySem.W.mg_of X G a_are_letters⟩,
    _, _, ⟨F_is_text_over, B_is_text_over, PySem.W.mg_of X G a_is_text_over⟩,
    _, _, ⟨F_want_few, B_want_few, PySem.W.mg_of X G a_want_few⟩,
    _, _, ⟨F_is_row, B_is_row, PySem.W.mg_of X G a_is_row⟩,
    _, _, ⟨F_want_machine, B_want_machine, PySem.W.mg_of X G a_want_machine⟩,
    _, _, ⟨F_met_from, B_met_from, PySem.W.mg_of X G a_met_from⟩,
    _, _, ⟨F_want_text, B_want_text, PySem.W.mg_of X G a_want_text⟩,
    _, _, ⟨F_want_place, B_want_place, PySem.W.mg_of X G a_want_place⟩,
    _, _, ⟨F_led, B_led, PySem.W.mg_of X G a_led⟩,
    _, _, ⟨F_is_taken, B_is_taken, PySem.W.mg_of X G a_is_taken⟩,
    _, _, ⟨F_contrary, B_contrary, PySem.W.mg_of X G a_contrary⟩,
    _, _, ⟨F_line_of, B_line_of, PySem.W.mg_of X G a_line_of⟩,
    _, _, ⟨F_machine_lines, B_machine_lines, PySem.W.mg_of X G a_machine_lines⟩,
    _, _, ⟨F_text_of, B_text_of, PySem.W.mg_of X G a_text_of⟩,
    _, _, ⟨F_bytes_of, B_bytes_of, PySem.W.mg_of X G a_bytes_of⟩,
    _, _, ⟨F_goal_of, B_goal_of, PySem.W.mg_of X G a_goal_of⟩,
    _, _, ⟨F_read_by, B_read_by, PySem.W.mg_of X G a_read_by⟩,
    _, _, ⟨F_read_machine, B_read_machine, PySem.W.mg_of X G a_read_machine⟩,
    _, _, ⟨F_read_sum, B_read_sum, PySem.W.mg_of X G a_read_sum⟩,
    _, _, ⟨F_law_pot, B_law_pot, PySem.W.mg_of X G a_law_pot⟩,
    _, _, ⟨F_law_draw, B_law_draw, PySem.W.mg_of X G a_law_draw⟩,
    _, _, ⟨F_law_pick, B_law_pick, PySem.W.mg_of X G a_law_pick⟩,
    _, _, ⟨F_law_met, B_law_met, PySem.W.mg_of X G a_law_met⟩,
    _, _, ⟨F_law_lines, B_law_lines, PySem.W.mg_of X G a_law_lines⟩,
    _, _, ⟨F_law_text, B_law_text, PySem.W.mg_of X G a_law_text⟩,
    _, _, ⟨F_law_line, B_law_line, PySem.W.mg_of X G a_law_line⟩,
    _, _, ⟨F_law_mixed, B_law_mixed, PySem.W.mg_of X G a_law_mixed⟩,
    _, _, ⟨F_law_goes, B_law_goes, PySem.W.mg_of X G a_law_goes⟩,
    _, _, ⟨F_law_asked_right, B_law_asked_right, PySem.W.mg_of X G a_law_asked_right⟩,
    _, _, ⟨F_law_plan, B_law_plan, PySem.W.mg_of X G a_law_plan⟩,
    _, _, ⟨F_law_right, B_law_right, PySem.W.mg_of X G a_law_right⟩,
    _, _, ⟨F_law, B_law, PySem.W.mg_of X G a_law⟩,
    _, ⟨pg_Machine, hd_Machine, po_Machine, sa_Machine⟩, PySem.W.mg_of X G a_Machine, mk_Machine, kc_Machine, ca_Machine, cg_Machine, ct_Machine, ne_Machine, tt_Machine, ⟨cr_Machine, ck_Machine⟩,
    ⟨_, ⟨cv_Machine_MOST_PLACES, ⟨_, rfl⟩⟩⟩,
    nf_Machine_own_letters,
    nf_Machine_own_rows,
    nf_Machine_own_kinds,
    ⟨_, ⟨ka_Machine_MOST_PLACES, ⟨_, rfl⟩, kg_Machine_MOST_PLACES, by decide +kernel⟩⟩,
    _, _, ⟨F_Machine_init, B_Machine_init, ⟨a_Machine_init, i_Machine_init, k_Machine_init⟩⟩,
    _, _, ⟨F_Machine_rows, B_Machine_rows, ⟨a_Machine_rows, i_Machine_rows, k_Machine_rows⟩⟩,
    _, _, ⟨F_Machine_kinds, B_Machine_kinds, ⟨a_Machine_kinds, i_Machine_kinds, k_Machine_kinds⟩⟩,
    _, _, ⟨F_Machine_goes, B_Machine_goes, ⟨a_Machine_goes, i_Machine_goes, k_Machine_goes⟩⟩,
    _, _, ⟨F_Machine_takes, B_Machine_takes, ⟨a_Machine_takes, i_Machine_takes, k_Machine_takes⟩⟩,
    _, _, ⟨F_Machine_len, B_Machine_len, ⟨a_Machine_len, i_Machine_len, k_Machine_len⟩⟩,
    _, _, ⟨F_Machine_contains, B_Machine_contains, ⟨a_Machine_contains, i_Machine_contains, k_Machine_contains⟩⟩,
    _, _, ⟨F_Machine_eq, B_Machine_eq, ⟨a_Machine_eq, i_Machine_eq, k_Machine_eq⟩⟩,
    _, _, ⟨F_Machine_repr, B_Machine_repr, ⟨a_Machine_repr, i_Machine_repr, k_Machine_repr⟩⟩,
    _, _, ⟨F_Machine_invert, B_Machine_invert, ⟨a_Machine_invert, i_Machine_invert, k_Machine_invert⟩⟩,
    _, _, _, ⟨F_Machine_letters, B_Machine_letters, ⟨a_Machine_letters, pg_Machine_letters, pt_Machine_letters, ⟨_, pr_Machine_letters⟩⟩⟩,
    _, ⟨pg_Sum, hd_Sum, po_Sum, sa_Sum⟩, PySem.W.mg_of X G a_Sum, mk_Sum, kc_Sum, ca_Sum, cg_Sum, ct_Sum, ne_Sum, tt_Sum, ⟨cr_Sum, ck_Sum⟩,
    _, ⟨pg_MachineReader, hd_MachineReader, po_MachineReader, sa_MachineReader⟩, PySem.W.mg_of X G a_MachineReader, mk_MachineReader, kc_MachineReader, ca_MachineReader, cg_MachineReader, ct_MachineReader, ne_MachineReader, tt_MachineReader, ⟨cr_MachineReader, ck_MachineReader⟩,
    nf_MachineReader_own_letters,
    nf_MachineReader_own_rows,
    nf_MachineReader_own_kinds,
    _, _, ⟨F_MachineReader_init, B_MachineReader_init, ⟨a_MachineReader_init, i_MachineReader_init, k_MachineReader_init⟩⟩,
    _, _, ⟨F_MachineReader_take, B_MachineReader_take, ⟨a_MachineReader_take, i_MachineReader_take, k_MachineReader_take⟩⟩,
    _, _, ⟨F_MachineReader_take_place, B_MachineReader_take_place, ⟨a_MachineReader_take_place, i_MachineReader_take_place, k_MachineReader_take_place⟩⟩,
    _, _, ⟨F_MachineReader_is_lacking, B_MachineReader_is_lacking, ⟨a_MachineReader_is_lacking, i_MachineReader_is_lacking, k_MachineReader_is_lacking⟩⟩,
    _, _, ⟨F_MachineReader_made, B_MachineReader_made, ⟨a_MachineReader_made, i_MachineReader_made, k_MachineReader_made⟩⟩,
    _, ⟨pg_SumReader, hd_SumReader, po_SumReader, sa_SumReader⟩, PySem.W.mg_of X G a_SumReader, mk_SumReader, kc_SumReader, ca_SumReader, cg_SumReader, ct_SumReader, ne_SumReader, tt_SumReader, ⟨cr_SumReader, ck_SumReader⟩,
    nf_SumReader_own_letters,
    nf_SumReader_own_told,
    _, _, ⟨F_SumReader_init, B_SumReader_init, ⟨a_SumReader_init, i_SumReader_init, k_SumReader_init⟩⟩,
    _, _, ⟨F_SumReader_take, B_SumReader_take, ⟨a_SumReader_take, i_SumReader_take, k_SumReader_take⟩⟩,
    _, _, ⟨F_SumReader_is_lacking, B_SumReader_is_lacking, ⟨a_SumReader_is_lacking, i_SumReader_is_lacking, k_SumReader_is_lacking⟩⟩,
    _, _, ⟨F_SumReader_made, B_SumReader_made, ⟨a_SumReader_made, i_SumReader_made, k_SumReader_made⟩⟩,
    ⟨ga_InvalidRow, gg_InvalidRow, ex_InvalidRow, hdc_InvalidRow, xa_InvalidRow, xn_InvalidRow, xt_InvalidRow, xm_InvalidRow⟩,
    _, PySem.W.mg_of X G a_PartsError, kit_sub hd_PartsError tt_PartsError su_InvalidRow_PartsError,
    kit_tyX su_InvalidRow_ValueError,
    PySem.W.mg_none_of X G z_ValueError,
    PySem.W.mg_none_of X G z_abs,
    PySem.W.mg_none_of X G z_all,
    PySem.W.mg_none_of X G z_any,
    PySem.W.mg_none_of X G z_bool,
    PySem.W.mg_none_of X G z_dict,
    PySem.W.mg_none_of X G z_divmod,
    PySem.W.mg_none_of X G z_enumerate,
    PySem.W.mg_none_of X G z_int,
    PySem.W.mg_none_of X G z_isinstance,
    PySem.W.mg_none_of X G z_len,
    PySem.W.mg_none_of X G z_list,
    PySem.W.mg_none_of X G z_max,
    PySem.W.mg_none_of X G z_min,
    PySem.W.mg_none_of X G z_ord,
    PySem.W.mg_none_of X G z_property,
    PySem.W.mg_none_of X G z_range,
    PySem.W.mg_none_of X G z_repr,
    PySem.W.mg_none_of X G z_set,
    PySem.W.mg_none_of X G z_sorted,
    PySem.W.mg_none_of X G z_str,
    PySem.W.mg_none_of X G z_super,
    PySem.W.mg_none_of X G z_tuple,
    PySem.W.mg_none_of X G z_zip,
    ⟨_, PySem.W.mg_of X G y_SMALL_basics⟩,
    ⟨_, PySem.W.mg_of X G y_MOST_LETTERS⟩,
    ⟨_, PySem.W.mg_of X G y_SMALL_products⟩,
    ⟨_, PySem.W.mg_of X G y_STAR⟩,
    ⟨_, PySem.W.mg_of X G y_MOST_IN_STAR⟩,
    ⟨_, PySem.W.mg_of X G y_MOST_PIECES⟩,
    ⟨_, PySem.W.mg_of X G y_LOST⟩,
    ⟨_, PySem.W.mg_of X G y_MOST_PARTS_LETTERS⟩,
    ⟨_, PySem.W.mg_of X G y_MOST_TEXTS⟩,
    ⟨_, PySem.W.mg_of X G y_MOST_WITHOUT_LETTERS⟩,
    ⟨_, PySem.W.mg_of X G y_DIGITS⟩,
    _, PySem.W.mg_of X G a_KINDS⟩, rfl, rfl⟩
/-- where the table of a code object lies -/
def pOf (K : PySem.W.Frag) (c : Addr) : Addr := match K.lookup c with
  | some ⟨_, _, .fields vs, _⟩ => (match (vs[11]? : Option Value) with | some (.ref P) => P | _ => 0)
  | _ => 0
theorem xf_of {w : World} {K : PySem.W.Frag} {mg : Str → Option Value} {h : Heap} {AK CM CS : Addr} {es : Array DictEntry} {n : Nat} (X : K.In h) (G : h.Ns mainGlobals mg)
    (ka : PySem.W.nsIn K mainGlobals "KINDS" = some (some (.ref AK))) (kl : K.lookup AK = some ⟨.type "dict", none, .dict es n, #[]⟩) (kk : PySem.W.KeysLit w.params es.toList) (ko : (AK == sysModules) = false)
    (ky : PySem.W.nsIn K AK "yes" = some (some (.bool true))) (kn : PySem.W.nsIn K AK "no" = some (some (.bool false)))
    (km : PySem.W.nsIn K mainGlobals "Machine" = some (some (.ref CM))) (ks : PySem.W.nsIn K mainGlobals "Sum" = some (some (.ref CS))) (ki : PySem.W.kitOne K (.ref CM) (.ref CS) = some false) (T : All K mg) : XF w T := by
  have e1 : T.A_KINDS = AK := Value.ref.inj (Option.some.inj (T.g_KINDS.symm.trans (PySem.W.mg_of X G ka)))
  have e2 : T.C_Machine = CM := Value.ref.inj (Option.some.inj (T.g_Machine.symm.trans (PySem.W.mg_of X G km)))
  have e3 : T.C_Sum = CS := Value.ref.inj (Option.some.inj (T.g_Sum.symm.trans (PySem.W.mg_of X G ks)))
  refine ⟨⟨es, n, ?_, kk, ?_⟩, ?_, ?_, ?_⟩
  · rw [e1]; exact kl
  · rw [e1]; exact ko
  · rw [e1]; exact ky
  · rw [e1]; exact kn
  · rw [e2, e3]; exact ki
theorem fin1 {w : World} {K : PySem.W.Frag} {mg mb : Str → Option Value} {fa fl a c1 AK CM CS : Addr} {es : Array DictEntry} {n : Nat} {s₁ : Shared} {vs : List Value} {ns : List Int} {ts : List Addr}
    (KX : K.In s₁.heap) (hns : s₁.heap.Ns mainGlobals mg) (hb : s₁.heap.Ns builtinsNs mb) (hbb : ∀ x : Str, x ≠ "__name__" → mb x = bootBuiltins x) (hlim : s₁.heap.NoLimit) (hg : s₁.gens = #[])
    (hT : ∀ P ∈ ts, s₁.heap.get? P = some (PySem.W.tabObj #[])) (m1 : ts.contains (pOf K c1) = true)
    (nT1 : (K.lookup (pOf K c1)).isNone = true) (hC1 : PySem.W.codeHdIn K c1 (pOf K c1) = true)
    (hbm : ∃ (bm : Addr) (ob : Obj), mg "__builtins__" = some (.ref bm) ∧ bm ≠ builtinsNs ∧ s₁.heap.get? bm = some ob ∧ ob.cls = .type "module" ∧ ob.dict = some builtinsNs ∧ ob.data = .plain)
    (ha : s₁.heap.get? a = some { cls := .type "list", data := .seq vs.toArray }) (hi : IntsAre vs ns) (hl : ns.length ≤ sizeLine) (hmg : mg "law" = some (.ref fa))
    (ka : PySem.W.nsIn K mainGlobals "KINDS" = some (some (.ref AK))) (kl : K.lookup AK = some ⟨.type "dict", none, .dict es n, #[]⟩) (kk : PySem.W.KeysLit w.params es.toList) (ko : (AK == sysModules) = false)
    (ky : PySem.W.nsIn K AK "yes" = some (some (.bool true))) (kn : PySem.W.nsIn K AK "no" = some (some (.bool false)))
    (km : PySem.W.nsIn K mainGlobals "Machine" = some (some (.ref CM))) (ks : PySem.W.nsIn K mainGlobals "Sum" = some (some (.ref CS))) (ki : PySem.W.kitOne K (.ref CM) (.ref CS) = some false)
    (hall : ∃ T : All K mg, T.f_law = fl ∧ T.d_law_right.code = .ref c1) :
    codeAny (model PW w) callerA (.call (.ref fa) ⟨[.ref a], []⟩) (fun r s' => r = .ok (.ret (.bool true)) ∧ OldK s₁.heap s'.heap ∧ s'.os = s₁.os ∧ AllBare s'.gens) s₁ := by
  have mm : ∀ {P : Addr}, ts.contains P = true → P ∈ ts := fun h => List.contains_iff_mem.mp h
  have nn : ∀ {P : Addr}, (K.lookup P).isNone = true → K.lookup P = none := fun h => Option.isNone_iff_eq_none.mp h
  obtain ⟨T, t1, t2⟩ := hall
  exact fin KX hns hb hbb hlim hg (hT _ (mm m1)) (nn nT1) hC1 hbm ha hi hl hmg ⟨T, t1, t2, xf_of KX hns ka kl kk ko ky kn km ks ki T⟩
end Lw
open PySem PySem.W PyProof.Rows
set_option maxRecDepth 100000 in
set_option maxHeartbeats 0 in
theorem PySem.Challenge.cw_missedparts_k90_whole_texts_of_machines_holds : PySem.Challenge.rw_missedparts_k90_whole_texts_of_machines.Holds :=
  Lw.hd (by
  k_fill
  refine Att.attach_callB rfl rfl fun w s₀ s₁ mg mb fa o pm cd doc a vs ns G Y ho hd hcd hmg hobj hints hlen hbits hg => ?_
  have KX := PySem.W.km_in_of Y
  have GG := G.T.g
  refine' Lw.fin1 KX GG G.T.b G.T.builtins G.T.nolimit hg (PySem.W.km_tabs_of Y) ?m1 ?nT1 ?hC1 G.T.bmain hobj hints (Nat.le_trans hlen (by decide)) hmg ?ka ?kl ?kk ?ko ?ky ?kn ?km ?ks ?ki (Lw.all_mk KX GG ?a_is_integer ?l_is_integer ?e_is_integer ?k_is_integer ?a_is_list ?l_is_list ?e_is_list ?k_is_list ?a_is_text ?l_is_text ?e_is_text ?k_is_text ?a_are_letters ?l_are_letters ?e_are_letters ?k_are_letters ?a_is_text_over ?l_is_text_over ?e_is_text_over ?k_is_text_over ?a_want_few ?l_want_few ?e_want_few ?k_want_few ?a_is_row ?l_is_row ?e_is_row ?k_is_row ?a_want_machine ?l_want_machine ?e_want_machine ?k_want_machine ?a_met_from ?l_met_from ?e_met_from ?k_met_from ?a_want_text ?l_want_text ?e_want_text ?k_want_text ?a_want_place ?l_want_place ?e_want_place ?k_want_place ?a_led ?l_led ?e_led ?k_led ?a_is_taken ?l_is_taken ?e_is_taken ?k_is_taken ?a_contrary ?l_contrary ?e_contrary ?k_contrary ?a_line_of ?l_line_of ?e_line_of ?k_line_of ?a_machine_lines ?l_machine_lines ?e_machine_lines ?k_machine_lines ?a_text_of ?l_text_of ?e_text_of ?k_text_of ?a_bytes_of ?l_bytes_of ?e_bytes_of ?k_bytes_of ?a_goal_of ?l_goal_of ?e_goal_of ?k_goal_of ?a_read_by ?l_read_by ?e_read_by ?k_read_by ?a_read_machine ?l_read_machine ?e_read_machine ?k_read_machine ?a_read_sum ?l_read_sum ?e_read_sum ?k_read_sum ?a_law_pot ?l_law_pot ?e_law_pot ?k_law_pot ?a_law_draw ?l_law_draw ?e_law_draw ?k_law_draw ?a_law_pick ?l_law_pick ?e_law_pick ?k_law_pick ?a_law_met ?l_law_met ?e_law_met ?k_law_met ?a_law_lines ?l_law_lines ?e_law_lines ?k_law_lines ?a_law_text ?l_law_text ?e_law_text ?k_law_text ?a_law_line ?l_law_line ?e_law_line ?k_law_line ?a_law_mixed ?l_law_mixed ?e_law_mixed ?k_law_mixed ?a_law_goes ?l_law_goes ?e_law_goes ?k_law_goes ?a_law_asked_right ?l_law_asked_right ?e_law_asked_right ?k_law_asked_right ?a_law_plan ?l_law_plan ?e_law_plan ?k_law_plan ?a_law_right ?l_law_right ?e_law_right ?k_law_right ?a_law ?l_law ?e_law ?k_law ?a_Machine ?pg_Machine ?hd_Machine ?po_Machine ?sa_Machine ?mk_Machine ?kc_Machine ?ca_Machine ?cg_Machine ?ct_Machine ?ne_Machine ?tt_Machine ?cr_Machine ?ck_Machine ?cv_Machine_MOST_PLACES ?nf_Machine_own_letters ?nf_Machine_own_rows ?nf_Machine_own_kinds ?ka_Machine_MOST_PLACES ?kg_Machine_MOST_PLACES ?a_Machine_init ?i_Machine_init ?l_Machine_init ?e_Machine_init ?k_Machine_init ?a_Machine_rows ?i_Machine_rows ?l_Machine_rows ?e_Machine_rows ?k_Machine_rows ?a_Machine_kinds ?i_Machine_kinds ?l_Machine_kinds ?e_Machine_kinds ?k_Machine_kinds ?a_Machine_goes ?i_Machine_goes ?l_Machine_goes ?e_Machine_goes ?k_Machine_goes ?a_Machine_takes ?i_Machine_takes ?l_Machine_takes ?e_Machine_takes ?k_Machine_takes ?a_Machine_len ?i_Machine_len ?l_Machine_len ?e_Machine_len ?k_Machine_len ?a_Machine_contains ?i_Machine_contains ?l_Machine_contains ?e_Machine_contains ?k_Machine_contains ?a_Machine_eq ?i_Machine_eq ?l_Machine_eq ?e_Machine_eq ?k_Machine_eq ?a_Machine_repr ?i_Machine_repr ?l_Machine_repr ?e_Machine_repr ?k_Machine_repr ?a_Machine_invert ?i_Machine_invert ?l_Machine_invert ?e_Machine_invert ?k_Machine_invert ?a_Machine_letters ?pg_Machine_letters ?pt_Machine_letters ?pr_Machine_letters ?l_Machine_letters ?e_Machine_letters ?k_Machine_letters ?a_Sum ?pg_Sum ?hd_Sum ?po_Sum ?sa_Sum ?mk_Sum ?kc_Sum ?ca_Sum ?cg_Sum ?ct_Sum ?ne_Sum ?tt_Sum ?cr_Sum ?ck_Sum ?a_MachineReader ?pg_MachineReader ?hd_MachineReader ?po_MachineReader ?sa_MachineReader ?mk_MachineReader ?kc_MachineReader ?ca_MachineReader ?cg_MachineReader ?ct_MachineReader ?ne_MachineReader ?tt_MachineReader ?cr_MachineReader ?ck_MachineReader ?nf_MachineReader_own_letters ?nf_MachineReader_own_rows ?nf_MachineReader_own_kinds ?a_MachineReader_init ?i_MachineReader_init ?l_MachineReader_init ?e_MachineReader_init ?k_MachineReader_init ?a_MachineReader_take ?i_MachineReader_take ?l_MachineReader_take ?e_MachineReader_take ?k_MachineReader_take ?a_MachineReader_take_place ?i_MachineReader_take_place ?l_MachineReader_take_place ?e_MachineReader_take_place ?k_MachineReader_take_place ?a_MachineReader_is_lacking ?i_MachineReader_is_lacking ?l_MachineReader_is_lacking ?e_MachineReader_is_lacking ?k_MachineReader_is_lacking ?a_MachineReader_made ?i_MachineReader_made ?l_MachineReader_made ?e_MachineReader_made ?k_MachineReader_made ?a_SumReader ?pg_SumReader ?hd_SumReader ?po_SumReader ?sa_SumReader ?mk_SumReader ?kc_SumReader ?ca_SumReader ?cg_SumReader ?ct_SumReader ?ne_SumReader ?tt_SumReader ?cr_SumReader ?ck_SumReader ?nf_SumReader_own_letters ?nf_SumReader_own_told ?a_SumReader_init ?i_SumReader_init ?l_SumReader_init ?e_SumReader_init ?k_SumReader_init ?a_SumReader_take ?i_SumReader_take ?l_SumReader_take ?e_SumReader_take ?k_SumReader_take ?a_SumReader_is_lacking ?i_SumReader_is_lacking ?l_SumReader_is_lacking ?e_SumReader_is_lacking ?k_SumReader_is_lacking ?a_SumReader_made ?i_SumReader_made ?l_SumReader_made ?e_SumReader_made ?k_SumReader_made ?a_InvalidRow ?lc_InvalidRow ?ii_InvalidRow ?li_InvalidRow ?ei_InvalidRow ?lk_InvalidRow ?v2_InvalidRow ?fl_InvalidRow ?lcc_InvalidRow ?su_InvalidRow ?se_InvalidRow ?sb_InvalidRow ?op_InvalidRow ?tp_InvalidRow ?sa_InvalidRow ?ti_InvalidRow ?kc_InvalidRow ?ex_InvalidRow ?ty_InvalidRow ?ga_InvalidRow ?gg_InvalidRow ?hdc_InvalidRow ?ss_InvalidRow ?nf_InvalidRow_row ?xa_InvalidRow ?xn_InvalidRow ?xt_InvalidRow ?xm_InvalidRow ?a_PartsError ?hd_PartsError ?tt_PartsError ?su_InvalidRow_PartsError ?su_InvalidRow_ValueError ?z_ValueError ?z_abs ?z_all ?z_any ?z_bool ?z_dict ?z_divmod ?z_enumerate ?z_int ?z_isinstance ?z_len ?z_list ?z_max ?z_min ?z_ord ?z_property ?z_range ?z_repr ?z_set ?z_sorted ?z_str ?z_super ?z_tuple ?z_zip ?y_SMALL_basics ?y_MOST_LETTERS ?y_SMALL_products ?y_STAR ?y_MOST_IN_STAR ?y_MOST_PIECES ?y_LOST ?y_MOST_PARTS_LETTERS ?y_MOST_TEXTS ?y_MOST_WITHOUT_LETTERS ?y_DIGITS ?a_KINDS) 
  (case ka => k_is); (case kl => k_is); (case kk => k_keys); (case ko => decide); (case ky => k_is); (case kn => k_is); (case km => k_is); (case ks => k_is); (case ki => kernel_rfl);
  (case a_is_integer => k_is); (case l_is_integer => k_is); (case e_is_integer => k_is); (case k_is_integer => k_is); (case a_is_list => k_is); (case l_is_list => k_is); (case e_is_list => k_is); (case k_is_list => k_is); (case a_is_text => k_is); (case l_is_text => k_is); (case e_is_text => k_is); (case k_is_text => k_is); (case a_are_letters => k_is); (case l_are_letters => k_is); (case e_are_letters => k_is); (case k_are_letters => k_is); (case a_is_text_over => k_is); (case l_is_text_over => k_is); (case e_is_text_over => k_is); (case k_is_text_over => k_is); (case a_want_few => k_is); (case l_want_few => k_is); (case e_want_few => k_is); (case k_want_few => k_is); (case a_is_row => k_is); (case l_is_row => k_is); (case e_is_row => k_is); (case k_is_row => k_is); (case a_want_machine => k_is); (case l_want_machine => k_is); (case e_want_machine => k_is); (case k_want_machine => k_is); (case a_met_from => k_is); (case l_met_from => k_is); (case e_met_from => k_is); (case k_met_from => k_is); (case a_want_text => k_is); (case l_want_text => k_is); (case e_want_text => k_is); (case k_want_text => k_is); (case a_want_place => k_is); (case l_want_place => k_is); (case e_want_place => k_is); (case k_want_place => k_is); (case a_led => k_is); (case l_led => k_is); (case e_led => k_is); (case k_led => k_is); (case a_is_taken => k_is); (case l_is_taken => k_is); (case e_is_taken => k_is); (case k_is_taken => k_is); (case a_contrary => k_is); (case l_contrary => k_is); (case e_contrary => k_is); (case k_contrary => k_is); (case a_line_of => k_is); (case l_line_of => k_is); (case e_line_of => k_is); (case k_line_of => k_is); (case a_machine_lines => k_is); (case l_machine_lines => k_is); (case e_machine_lines => k_is); (case k_machine_lines => k_is); (case a_text_of => k_is); (case l_text_of => k_is); (case e_text_of => k_is); (case k_text_of => k_is); (case a_bytes_of => k_is); (case l_bytes_of => k_is); (case e_bytes_of => k_is); (case k_bytes_of => k_is); (case a_goal_of => k_is); (case l_goal_of => k_is); (case e_goal_of => k_is); (case k_goal_of => k_is); (case a_read_by => k_is); (case l_read_by => k_is); (case e_read_by => k_is); (case k_read_by => k_is); (case a_read_machine => k_is); (case l_read_machine => k_is); (case e_read_machine => k_is); (case k_read_machine => k_is); (case a_read_sum => k_is); (case l_read_sum => k_is); (case e_read_sum => k_is); (case k_read_sum => k_is); (case a_law_pot => k_is); (case l_law_pot => k_is); (case e_law_pot => k_is); (case k_law_pot => k_is); (case a_law_draw => k_is); (case l_law_draw => k_is); (case e_law_draw => k_is); (case k_law_draw => k_is); (case a_law_pick => k_is); (case l_law_pick => k_is); (case e_law_pick => k_is); (case k_law_pick => k_is); (case a_law_met => k_is); (case l_law_met => k_is); (case e_law_met => k_is); (case k_law_met => k_is); (case a_law_lines => k_is); (case l_law_lines => k_is); (case e_law_lines => k_is); (case k_law_lines => k_is); (case a_law_text => k_is); (case l_law_text => k_is); (case e_law_text => k_is); (case k_law_text => k_is); (case a_law_line => k_is); (case l_law_line => k_is); (case e_law_line => k_is); (case k_law_line => k_is); (case a_law_mixed => k_is); (case l_law_mixed => k_is); (case e_law_mixed => k_is); (case k_law_mixed => k_is); (case a_law_goes => k_is); (case l_law_goes => k_is); (case e_law_goes => k_is); (case k_law_goes => k_is); (case a_law_asked_right => k_is); (case l_law_asked_right => k_is); (case e_law_asked_right => k_is); (case k_law_asked_right => k_is); (case a_law_plan => k_is); (case l_law_plan => k_is); (case e_law_plan => k_is); (case k_law_plan => k_is); (case a_law_right => k_is); (case l_law_right => k_is); (case e_law_right => k_is); (case k_law_right => k_is); (case a_law => k_is); (case l_law => k_is); (case e_law => k_is); (case k_law => k_is); (case a_Machine => k_is); (case pg_Machine => k_is); (case hd_Machine => k_is); (case po_Machine => k_is); (case sa_Machine => k_is); (case mk_Machine => k_is); (case kc_Machine => k_is); (case ca_Machine => k_is); (case cg_Machine => k_is); (case ct_Machine => k_is); (case ne_Machine => k_is); (case tt_Machine => k_is); (case cr_Machine => k_is); (case ck_Machine => k_is); (case cv_Machine_MOST_PLACES => k_is); (case nf_Machine_own_letters => k_is); (case nf_Machine_own_rows => k_is); (case nf_Machine_own_kinds => k_is); (case ka_Machine_MOST_PLACES => k_is); (case kg_Machine_MOST_PLACES => k_is); (case a_Machine_init => k_is); (case i_Machine_init => k_is); (case l_Machine_init => k_is); (case e_Machine_init => k_is); (case k_Machine_init => k_is); (case a_Machine_rows => k_is); (case i_Machine_rows => k_is); (case l_Machine_rows => k_is); (case e_Machine_rows => k_is); (case k_Machine_rows => k_is); (case a_Machine_kinds => k_is); (case i_Machine_kinds => k_is); (case l_Machine_kinds => k_is); (case e_Machine_kinds => k_is); (case k_Machine_kinds => k_is); (case a_Machine_goes => k_is); (case i_Machine_goes => k_is); (case l_Machine_goes => k_is); (case e_Machine_goes => k_is); (case k_Machine_goes => k_is); (case a_Machine_takes => k_is); (case i_Machine_takes => k_is); (case l_Machine_takes => k_is); (case e_Machine_takes => k_is); (case k_Machine_takes => k_is); (case a_Machine_len => k_is); (case i_Machine_len => k_is); (case l_Machine_len => k_is); (case e_Machine_len => k_is); (case k_Machine_len => k_is); (case a_Machine_contains => k_is); (case i_Machine_contains => k_is); (case l_Machine_contains => k_is); (case e_Machine_contains => k_is); (case k_Machine_contains => k_is); (case a_Machine_eq => k_is); (case i_Machine_eq => k_is); (case l_Machine_eq => k_is); (case e_Machine_eq => k_is); (case k_Machine_eq => k_is); (case a_Machine_repr => k_is); (case i_Machine_repr => k_is); (case l_Machine_repr => k_is); (case e_Machine_repr => k_is); (case k_Machine_repr => k_is); (case a_Machine_invert => k_is); (case i_Machine_invert => k_is); (case l_Machine_invert => k_is); (case e_Machine_invert => k_is); (case k_Machine_invert => k_is); (case a_Machine_letters => k_is); (case pg_Machine_letters => k_is); (case pt_Machine_letters => k_is); (case pr_Machine_letters => k_is); (case l_Machine_letters => k_is); (case e_Machine_letters => k_is); (case k_Machine_letters => k_is); (case a_Sum => k_is); (case pg_Sum => k_is); (case hd_Sum => k_is); (case po_Sum => k_is); (case sa_Sum => k_is); (case mk_Sum => k_is); (case kc_Sum => k_is); (case ca_Sum => k_is); (case cg_Sum => k_is); (case ct_Sum => k_is); (case ne_Sum => k_is); (case tt_Sum => k_is); (case cr_Sum => k_is); (case ck_Sum => k_is); (case a_MachineReader => k_is); (case pg_MachineReader => k_is); (case hd_MachineReader => k_is); (case po_MachineReader => k_is); (case sa_MachineReader => k_is); (case mk_MachineReader => k_is); (case kc_MachineReader => k_is); (case ca_MachineReader => k_is); (case cg_MachineReader => k_is); (case ct_MachineReader => k_is); (case ne_MachineReader => k_is); (case tt_MachineReader => k_is); (case cr_MachineReader => k_is); (case ck_MachineReader => k_is); (case nf_MachineReader_own_letters => k_is); (case nf_MachineReader_own_rows => k_is); (case nf_MachineReader_own_kinds => k_is); (case a_MachineReader_init => k_is); (case i_MachineReader_init => k_is); (case l_MachineReader_init => k_is); (case e_MachineReader_init => k_is); (case k_MachineReader_init => k_is); (case a_MachineReader_take => k_is); (case i_MachineReader_take => k_is); (case l_MachineReader_take => k_is); (case e_MachineReader_take => k_is); (case k_MachineReader_take => k_is); (case a_MachineReader_take_place => k_is); (case i_MachineReader_take_place => k_is); (case l_MachineReader_take_place => k_is); (case e_MachineReader_take_place => k_is); (case k_MachineReader_take_place => k_is); (case a_MachineReader_is_lacking => k_is); (case i_MachineReader_is_lacking => k_is); (case l_MachineReader_is_lacking => k_is); (case e_MachineReader_is_lacking => k_is); (case k_MachineReader_is_lacking => k_is); (case a_MachineReader_made => k_is); (case i_MachineReader_made => k_is); (case l_MachineReader_made => k_is); (case e_MachineReader_made => k_is); (case k_MachineReader_made => k_is); (case a_SumReader => k_is); (case pg_SumReader => k_is); (case hd_SumReader => k_is); (case po_SumReader => k_is); (case sa_SumReader => k_is); (case mk_SumReader => k_is); (case kc_SumReader => k_is); (case ca_SumReader => k_is); (case cg_SumReader => k_is); (case ct_SumReader => k_is); (case ne_SumReader => k_is); (case tt_SumReader => k_is); (case cr_SumReader => k_is); (case ck_SumReader => k_is); (case nf_SumReader_own_letters => k_is); (case nf_SumReader_own_told => k_is); (case a_SumReader_init => k_is); (case i_SumReader_init => k_is); (case l_SumReader_init => k_is); (case e_SumReader_init => k_is); (case k_SumReader_init => k_is); (case a_SumReader_take => k_is); (case i_SumReader_take => k_is); (case l_SumReader_take => k_is); (case e_SumReader_take => k_is); (case k_SumReader_take => k_is); (case a_SumReader_is_lacking => k_is); (case i_SumReader_is_lacking => k_is); (case l_SumReader_is_lacking => k_is); (case e_SumReader_is_lacking => k_is); (case k_SumReader_is_lacking => k_is); (case a_SumReader_made => k_is); (case i_SumReader_made => k_is); (case l_SumReader_made => k_is); (case e_SumReader_made => k_is); (case k_SumReader_made => k_is); (case a_InvalidRow => k_is); (case lc_InvalidRow => k_is); (case ii_InvalidRow => k_is); (case li_InvalidRow => k_is); (case ei_InvalidRow => k_is); (case lk_InvalidRow => k_is); (case v2_InvalidRow => rfl); (case fl_InvalidRow => first | rfl | decide +kernel); (case lcc_InvalidRow => k_is); (case su_InvalidRow => ks_is); (case se_InvalidRow => k_is); (case sb_InvalidRow => k_is); (case op_InvalidRow => k_is); (case tp_InvalidRow => decide +kernel); (case sa_InvalidRow => k_is); (case ti_InvalidRow => k_is); (case kc_InvalidRow => k_is); (case ex_InvalidRow => k_is); (case ty_InvalidRow => k_is); (case ga_InvalidRow => k_is); (case gg_InvalidRow => k_is); (case hdc_InvalidRow => k_is); (case ss_InvalidRow => k_is); (case nf_InvalidRow_row => k_is); (case xa_InvalidRow => k_is); (case xn_InvalidRow => k_is); (case xt_InvalidRow => k_is); (case xm_InvalidRow => k_is); (case a_PartsError => k_is); (case hd_PartsError => k_is); (case tt_PartsError => k_is); (case su_InvalidRow_PartsError => k_is); (case su_InvalidRow_ValueError => k_is); (case z_ValueError => k_is); (case z_abs => k_is); (case z_all => k_is); (case z_any => k_is); (case z_bool => k_is); (case z_dict => k_is); (case z_divmod => k_is); (case z_enumerate => k_is); (case z_int => k_is); (case z_isinstance => k_is); (case z_len => k_is); (case z_list => k_is); (case z_max => k_is); (case z_min => k_is); (case z_ord => k_is); (case z_property => k_is); (case z_range => k_is); (case z_repr => k_is); (case z_set => k_is); (case z_sorted => k_is); (case z_str => k_is); (case z_super => k_is); (case z_tuple => k_is); (case z_zip => k_is); (case y_SMALL_basics => k_is); (case y_MOST_LETTERS => k_is); (case y_SMALL_products => k_is); (case y_STAR => k_is); (case y_MOST_IN_STAR => k_is); (case y_MOST_PIECES => k_is); (case y_LOST => k_is); (case y_MOST_PARTS_LETTERS => k_is); (case y_MOST_TEXTS => k_is); (case y_MOST_WITHOUT_LETTERS => k_is); (case y_DIGITS => k_is); (case a_KINDS => k_is)
  (case m1 => kernel_rfl)
  (case nT1 => kernel_rfl)
  (case hC1 => kernel_rfl)
  )
