import PyProof.Rows.All
import KE.OsRunLaw
import KE.KNestM
import PySem.Challenge.RW_missedparts_k97_desk_told_and_refused
import Wide.All
import OpenK.AllK
import Wide.FinOn
import HandS.ForMost
import HandS.SortKw
import HandS.EndTab
import HandS.IsInst
import HandS.StrMore
import HandS.TupLe
import HandS.WideBits
import HandS.Walk
import HandS.Deep
import HandS.ListItems
import HandS.Conv
import HandS.More
import PyProof.ReprRoads
import KE.SortKeyHeap
import KE.KDictCopyH
import PyProof.ReprLen
import KE.DataMinKey
import HandS.Set
import HandS.Strs
import HandS.Property
import HandS.OwnEq
import HandS.FStr
import OpenK.KOps
import OpenK.KMeth
import KE.GoesZip
import KE.GoesMore
import KE.GoesEnum
import KE.KIsAll
import HandS.Replace
import HandS.ClsMeth
import PyProof.StrLawsFirst
import HandS.MakeKwOnly
import KE.KOpsOwn
import HandS.Exc
import HandS.ExcInit
import KE.KExcSuper
import KE.KEqNest
import PyProof.ReprReads
import HandS.SetBool
import HandS.TupSets
import HandS.TryOnly
import HandS.ExcOwn
import HandS.WordsExc
import HandS.ExcField
import HandS.ExcIs
import PyProof.ExcBaseAll.ValueError
import PyProof.ExcBaseAll.RuntimeError
import PyProof.ExcBaseAll.ArithmeticError
import HandS.Lambda
import HandS.Nested
import HandS.TryMany
import PyProof.EqKinds
import HandS.TupLen
import KE.KeyNested
import HandS.Style
import KE.KDictZip
import KE.KDictItemsList
import KE.KDictDisplayH
import PyProof.DictTable
set_option Elab.async false
set_option linter.all false
set_option maxRecDepth 100000
set_option maxHeartbeats 4000000
namespace L3
open PySem PySem.W PySem.Calls PyProof.Rows HeadRun
/-- what a hook with tables looks at, off the tree -/
def kmOb (as ts : List Addr) (s : SharedT) : List (Option Obj) × List (Option Obj) := (as.map (getT s), ts.map (getT s))
theorem kmOb_ok {K : Params → Frag} {as : List Addr} {e : ∀ P, as = (K P).map (·.1)} {ts : List Addr} (s : SharedT) : kmOb as ts s = (kmHook K as e ts).obs s.abs :=
  Prod.ext (List.map_congr_left fun a _ => getT_eq s a) (List.map_congr_left fun a _ => getT_eq s a)
theorem map_three {α β γ δ : Type} {o : Option α} {f : α → β} {g : α → γ} {h : α → δ} {b : β} {c : γ} {d : δ}
    (x : o.map f = some b) (y : o.map g = some c) (z : o.map h = some d) : o.map (fun s => (f s, g s, h s)) = some (b, c, d) := by
  cases o with
  | none => cases x
  | some s => cases x; cases y; cases z; rfl
/-- the state behind the top -/
noncomputable abbrev endOf (p : Program) (M : Nat) (w : World) (os : OsState) : Option SharedT := endF (stepQ (denQ tabQ) p w) M p w os
/-- the head by three runs, each checked apart -/
theorem head3 {r : OpenRow} {p q : Program} {H : Hook} {ob : SharedT → H.α} {M : Nat} {loose : List PySem.Str} {d : DefRec} {kwd : List (PySem.Str × PySem.Expr)} (hr : r.prog = p) (hrec : r.toRowW.records = [])
    (ho : ∀ s : SharedT, ob s = H.obs s.abs)
    (e : opening p = plainProg p.main.scope.names) (f : ∀ s, fenceModules? p s = some s)
    (rA : ∀ w os, (endOf p M w os).map (fun s => looksF p (boot_heap w.params) s.abs) = some true)
    (rB : ∀ w os, (endOf p M w os).map (fun s => seenQ q loose (importedModules p.main.body) (fun s => xlAt q [] s && recOk [] s) s.abs) = some (openGood q loose))
    (rC : ∀ w os, (endOf p M w os).map ob = some (H.val w))
    (hdef : defOf q r.name = some (d, kwd)) (hp : r.prog.theDef r.name = some (d.params, d.body, d.scope)) (hk : kwWritten? d.params.kwonlyargs d.params.kw_defaults = some kwd)
    (hwr : (!r.writes || r.records.isEmpty) = true) (k1 : r.wellSaid = true) (ok : (chainsOk q && opensWell r.prog && (frees r.toRowW && r.within.isEmpty)) = true) (hb : r.prog.bare) (hw : r.toRowW.promised)
    (call : WalkO q loose (XL q []) H.says r.toRowW d kwd fun f vs => PySem.call f vs) : r.Holds := by
  subst hr
  refine head_any (M := M) (ob := ob) ho e f (fun w os => ?_) hdef hp hk hwr k1 ok hb hw call
  have z := map_three (rA w os) (rB w os) (rC w os)
  rw [hrec]
  exact z
theorem map_l {α β γ : Type} {o : Option α} {f : α → β} {g : α → γ} {b : β} {c : γ} (x : o.map (fun s => (f s, g s)) = some (b, c)) : o.map f = some b := by
  cases o with
  | none => cases x
  | some s => exact congrArg some (Prod.mk.inj (Option.some.inj x)).1
theorem map_r {α β γ : Type} {o : Option α} {f : α → β} {g : α → γ} {b : β} {c : γ} (x : o.map (fun s => (f s, g s)) = some (b, c)) : o.map g = some c := by
  cases o with
  | none => cases x
  | some s => exact congrArg some (Prod.mk.inj (Option.some.inj x)).2
/-- the looks at the view, one of them -/
noncomputable abbrev seenAt (p q : Program) (l : List PySem.Str) (s : SharedT) := seenQ q l (importedModules p.main.body) (fun s => xlAt q [] s && recOk [] s) s.abs
end L3
namespace Lw
open PySem PySem.W PyProof.Rows HeadRun L3
/-- a program with the last of its top's statements alone -/
def viewFrom (p : Program) (n : Nat) : Program := { p with main := { p.main with body := p.main.body.drop n } }
noncomputable abbrev pz : Program := PySem.Challenge.pw_missedparts_k97_desk_told_and_refused
noncomputable def qz : Program := viewFrom pz 69
def lz : List PySem.Str := [PySem.Str.ofString "_wall", PySem.Str.ofString "PartsError", PySem.Str.ofString "InvalidText", PySem.Str.ofString "InvalidLetters", PySem.Str.ofString "InvalidLetter", PySem.Str.ofString "InvalidPlace", PySem.Str.ofString "InvalidMachine", PySem.Str.ofString "InvalidCommand", PySem.Str.ofString "InvalidRows", PySem.Str.ofString "InvalidKinds", PySem.Str.ofString "InvalidPlaces", PySem.Str.ofString "StateError", PySem.Str.ofString "OtherLetters", PySem.Str.ofString "NotComeTo", PySem.Str.ofString "NothingToUndo", PySem.Str.ofString "LimitError", PySem.Str.ofString "TooMany", PySem.Str.ofString "SMALL", PySem.Str.ofString "MOST_LETTERS", PySem.Str.ofString "is_integer", PySem.Str.ofString "is_count", PySem.Str.ofString "is_list", PySem.Str.ofString "is_text", PySem.Str.ofString "are_letters", PySem.Str.ofString "is_text_over", PySem.Str.ofString "want_few", PySem.Str.ofString "is_row", PySem.Str.ofString "want_machine", PySem.Str.ofString "met_from", PySem.Str.ofString "machine_from", PySem.Str.ofString "Machine", PySem.Str.ofString "want_text", PySem.Str.ofString "want_letter", PySem.Str.ofString "want_place", PySem.Str.ofString "want_same", PySem.Str.ofString "want_right", PySem.Str.ofString "led", PySem.Str.ofString "is_taken", PySem.Str.ofString "contrary", PySem.Str.ofString "is_so", PySem.Str.ofString "paired_by", PySem.Str.ofString "lists_of", PySem.Str.ofString "want_listed", PySem.Str.ofString "turned_by", PySem.Str.ofString "turned", PySem.Str.ofString "redirected", PySem.Str.ofString "WHICH", PySem.Str.ofString "Desk", PySem.Str.ofString "_law_pot", PySem.Str.ofString "_law_draw", PySem.Str.ofString "_law_pick", PySem.Str.ofString "_law_met", PySem.Str.ofString "_law_lines", PySem.Str.ofString "_law_machine", PySem.Str.ofString "_law_led", PySem.Str.ofString "_law_flipped", PySem.Str.ofString "_law_heard", PySem.Str.ofString "_law_joined", PySem.Str.ofString "_law_cut", PySem.Str.ofString "_law_stands", PySem.Str.ofString "_law_refusals_right", PySem.Str.ofString "_law_change", PySem.Str.ofString "_law_right"]
theorem hdA : ∀ w os, (endOf pz 14390 w os).map (fun s => (looksF pz (boot_heap w.params) s.abs, seenAt pz qz lz s)) = some (true, openGood qz lz) := by
  intro w os; kernel_rfl
local macro_rules | `(tactic| o_head ($f $k $a $e $t)) => `(tactic| (
  refine' head3 (p := pz) (q := qz) (loose := lz) (M := 14390) (H := $f $k $a $e $t) (ob := kmOb $a $t) rfl rfl (fun s => kmOb_ok s) ?e ?f (fun w os => map_l (hdA w os)) (fun w os => map_r (hdA w os)) ?rC (by rfl) (by rfl) (by rfl) (by rfl) (by first | assumption | decide +kernel) (by decide +kernel) ⟨rfl, rfl, rfl, rfl, rfl, by decide +kernel⟩ ?hw ?hc
  (case e => kernel_rfl)
  (case f => intro s; kernel_rfl)
  (case rC => intro w os; kernel_rfl)))
set_option maxHeartbeats 0 in
open_top hd for PySem.Challenge.rw_missedparts_k97_desk_told_and_refused
end Lw
namespace L3
open PySem PySem.Spec PyProof.Rows L2
/-- as FnOk, where no guard stands around -/
structure FnOkG (P : Program) (w : World) (K : PySem.W.Frag) (mg : Str → Option Value) (base : Heap) (CX : CXT) (k : Nat) (f : Addr) (fd : FuncData) (ps : List Str) (sp : Sp) : Prop where
  len : ∀ vs H Q E, sp vs H Q E → vs.length = ps.length
  run : ∀ (A : Around) (outer : List Env) (s : Shared) (H : Hp) (args : Args) (us : List Value) (vs : List V) (Q : VK) (E : XK), Room k A → A.guards = some [] → Env0 P w K mg base A outer s H → BindsTo s fd args (ps.zip us) → Vals vs us → sp vs H Q E →
    codeAny (model P w) A (.call (.ref f) args) (CR CX outer P w H s Q E) s
theorem FnOkG.of {P : Program} {w : World} {K : PySem.W.Frag} {mg : Str → Option Value} {base : Heap} {CX : CXT} {k : Nat} {f : Addr} {fd : FuncData} {ps : List Str} {sp : Sp} (F : FnOk P w K mg base CX k f fd ps sp) : FnOkG P w K mg base CX k f fd ps sp :=
  ⟨F.len, fun A outer s H args us vs Q E hr _ => F.run A outer s H args us vs Q E hr⟩
theorem FnOkG.mono {P : Program} {w : World} {K : PySem.W.Frag} {mg : Str → Option Value} {base : Heap} {CX : CXT} {j k : Nat} {f : Addr} {fd : FuncData} {ps : List Str} {sp : Sp} (F : FnOkG P w K mg base CX j f fd ps sp) (h : j ≤ k) : FnOkG P w K mg base CX k f fd ps sp :=
  ⟨F.len, fun A outer s H args us vs Q E hr => F.run A outer s H args us vs Q E (hr.mono h)⟩
section
variable {P : Program} {w : World} {K : PySem.W.Frag} {mg : Str → Option Value} {base : Heap}
theorem fn_ofG {CX : CXT} {k : Nat} {f : Addr} {name qual : Str} {params : Arguments} {body : List Stmt} {scope : Scope} {dV kV doc pm cdv ct oc : Value} {an od : Option Addr}
    {osl : Array (Option Value)} {N ps : List Str} {sp : Sp} (lk : K.lookup f = some ⟨oc, od, .func (PySem.W.fnOf name qual params body scope dV kV doc pm an cdv ct), osl⟩) (hcd : PySem.W.codeIn K cdv qual = true) (S : FnScope N ps scope)
    (len : ∀ vs H Q E, sp vs H Q E → vs.length = ps.length)
    (hbody : ∀ (A : Around) (outer : List Env) (s : Shared) (H : Hp) (vs : List V) (Q : VK) (E : XK), Room k (A.deeper (envOfC qual scope s.heap.objs.size f cdv)) → A.guards = some [] → sp vs H Q E →
      ∃ t, PSs (cxOf CX P w K mg base N qual scope f cdv A outer s H E) body t ∧ t { nx := fun _ H' => Q .non H', rt := Q } (L2.start N vs) H) :
    FnOkG P w K mg base CX (k + 1) f (PySem.W.fnOf name qual params body scope dV kV doc pm an cdv ct) ps sp := by
  refine ⟨len, fun A outer s H args us vs Q E hr hg e0 hb r hsp => ?_⟩
  exact LamX.run_ofS lk hcd S hr e0 hb r (len _ _ _ _ hsp) fun hr' => hbody A outer s H vs Q E hr' hg hsp
theorem okG {x qual : Str} {st : Stmt} {f : Addr} {fd : FuncData} {N ps : List Str} {k : Nat} {sp : Sp} (F : Fun K x qual st f fd) (S : FnScope N ps (defScope st)) (len : ∀ vs H Q E, sp vs H Q E → vs.length = ps.length)
    (hbody : ∀ (cdv : Value) (A : Around) (outer : List Env) (s : Shared) (H : Hp) (vs : List V) (Q : VK) (E : XK), Room k (A.deeper (envOfC qual (defScope st) s.heap.objs.size f cdv)) → A.guards = some [] → sp vs H Q E →
      ∃ t, PSs (cxOf CX0 P w K mg base N qual (defScope st) f cdv A outer s H E).nox (defBody st) t ∧ t { nx := fun _ H' => Q .non H', rt := Q } (L2.start N vs) H) : FnOkG P w K mg base CX0 (k + 1) f fd ps sp := by
  obtain ⟨oc, od, kV, doc, pm, an, cdv, ct, osl, rfl, lk, hcd⟩ := F.ex
  refine fn_ofG lk hcd S len fun A outer s H vs Q E hr hg hsp => ?_
  obtain ⟨t, h, q⟩ := hbody cdv A outer s H vs Q E hr hg hsp
  exact ⟨t, h.nox, q⟩
end
section
variable {X : Cx} {CX : CXT} {k : Nat} {f : Addr} {fd : FuncData} {ps ks : List Str} {sp : Sp} {E : XK} {x : Str} {p pos : Pos} {e : Expr} {es : List Expr} {kws : List Keyword} {t tk : TA} {g : List Value → List Value → List Value} {gV : List V → List V → List V}
theorem run_fnG {pins : List (Addr × Obj)} {σ : L2.St} {H : Hp} {s : Shared} {Q : VK} {us ws : List Value} {vs : List V} {kw : List (Str × Value)} (F : FnOkG X.prog X.w X.K X.mg X.base CX k f fd ps sp) (hr : Room k X.A) (hG : X.A.guards = some []) (hx : Passes CX X E)
    (I : Inv X pins σ H s) (hb : BindsTo s fd ⟨us, kw⟩ (ps.zip ws)) (r : Vals vs ws) (h : sp vs H Q E) : wpAny (model X.prog X.w) X.A (call (.ref f) us kw) (EP X pins σ Q) X.xe s := by
  refine wpAny_call (codeAny_mono (F.run X.A X.stack s H ⟨us, kw⟩ ws vs Q E hr hG I.env0 hb r h) fun r s' hq => ?_)
  cases r with
  | error e => exact hx pins σ H s e s' I hq
  | ok fl =>
    cases fl with
    | ret u => exact I.after hq
    | next => exact False.elim hq
    | brk => exact False.elim hq
    | cont => exact False.elim hq
/-- f(e, ..) -/
theorem pe_callG (F : FnOkG X.prog X.w X.K X.mg X.base CX k f fd ps sp) (hr : Room k X.A) (hG : X.A.guards = some []) (hg : Gl X x) (hm : X.mg x = some (.ref f)) (hk : PySem.W.keepIn X.K (.ref f) = true) (hb : L2.Binds X.K fd ps []) (hx : Passes CX X E)
    (ha : PA X (e :: es) t) (hdb : (x == ("__debug__" : Str)) = false := by decide) (he : starEach (e :: es) X.env = (false, eval e X.env) :: starEach es X.env := by rfl) (hpl : (backTo pos (starEach es X.env)).any (·.1) = false := by rfl) :
    PE X (.Call (.Name x p) (e :: es) [] pos) (tCall sp [] E t) := by
  refine ⟨fun pins s σ H Q I h => ?_⟩
  refine wpAny_Call_Name_kw (ld_glob I hg hm ?_ hdb)
  refine PySem.W.callWith_K (h₀ := X.base) I.ok.mod.kin hk (thn (ha.run pos pins s σ H _ I h) fun us s1 ⟨vs, H1, I1, r, q⟩ => ⟨I1.kIn, ?_⟩) he hpl
  have q : sp (vs ++ []) H1 Q E := q
  rw [List.append_nil] at q
  have hl : (us ++ []).length = ps.length := by rw [List.append_nil, ← r.length]; exact F.len _ _ _ _ q
  exact run_fnG F hr hG hx I1 (hb s1 us I1.kIn hl) (by rw [List.append_nil]; exact r) q
end
end L3
namespace L3
open PySem PySem.Spec PyProof.Rows L2
/-- a text by its codes -/
abbrev tS (l : List Nat) : Str := ⟨l.toArray⟩
abbrev tx (l : List Nat) : V := .str (tS l)
theorem tS_len (l : List Nat) : (tS l).length = l.length := by show l.toArray.size = _; simp
theorem tS_inj {a b : List Nat} (h : tS a = tS b) : a = b := by
  have h2 : a.toArray = b.toArray := congrArg Str.cps h
  simpa using congrArg Array.toList h2
theorem tS_app (a b : List Nat) : tS a ++ tS b = tS (a ++ b) := by
  show (⟨a.toArray ++ b.toArray⟩ : Str) = _
  simp
theorem tx_inj {a b : List Nat} (h : tx a = tx b) : a = b := tS_inj (V.str.inj h)
theorem tx_dec (a b : List Nat) : decide (tx a = tx b) = decide (a = b) := by
  by_cases e : a = b
  · subst e; simp
  · rw [decide_eq_false e, decide_eq_false fun h => e (tx_inj h)]
section
variable {X : Cx}
theorem op_addT : OpR X (binaryOp .Add) (fun x y H Q => ∃ a b, x = tx a ∧ y = tx b ∧ a.length + b.length ≤ sizeLine ∧ Q (tx (a ++ b)) H) := by
  intro pins s σ H x y v u Q I rx ry h
  obtain ⟨a, b, rfl, rfl, hz, q⟩ := h
  exact op_add_str pins s σ H _ _ v u Q I rx ry ⟨_, _, rfl, rfl, by rw [tS_len, tS_len]; exact hz, by rw [tS_app]; exact q⟩
end
end L3
namespace L3
open PySem PySem.Spec PyProof.Rows L2
mutual
theorem dp_noDict {K : PySem.W.Frag} {H : Hp} : ∀ {v : V} {d : PyData}, Dp K H v d → d.hasDict = false
  | _, .none, _ => by simp only [PyData.hasDict]
  | _, .bool _, _ => by simp only [PyData.hasDict]
  | _, .int _, _ => by simp only [PyData.hasDict]
  | _, .str _, _ => by simp only [PyData.hasDict]
  | _, .list ds, h => by
    cases h with
    | lst hs ha => simp only [PyData.hasDict]; exact dpAll_noDict ha
  | _, .tuple ds, h => by
    cases h with
    | tup hs ha => simp only [PyData.hasDict]; exact dpAll_noDict ha
  | _, .dict _, h => by cases h
theorem dpAll_noDict {K : PySem.W.Frag} {H : Hp} : ∀ {vs : List V} {ds : List PyData}, DpAll K H vs ds → PyData.hasDictAll ds = false
  | _, [], _ => by simp only [PyData.hasDictAll]
  | _, d :: ds, h => by
    cases h with
    | cons h1 h2 => simp only [PyData.hasDictAll, dp_noDict h1, dpAll_noDict h2, Bool.or_self]
end
theorem len_toL (acc : Array Value) : acc.toList.length = acc.size := by simp
section
variable {X : Cx}
/-- list(text) -/
theorem call_listT (hc : X.calm = true) : CallR X (.type "list") (fun xs H Q => ∃ l, xs = [tx l] ∧ l.length ≤ sizeLine ∧ ∀ p, H p = none → Q (.ref p) (upd H p (.lst (l.map fun c => tx [c])))) := by
  intro pins s σ H xs us Q I r h
  obtain ⟨l, rfl, hz, q⟩ := h
  obtain ⟨u, rfl, rx⟩ := vals1 r
  obtain ⟨t, rfl⟩ := rx
  refine call_list_str (I.ok.hd hc) (tS l) t (fun h' tk acc c hk hS hacc => ?_) (by show l.toArray.size ≤ _; simpa using hz)
  have hl : acc.size = l.length := by rw [hacc.1]; simp [tS]
  have hv : Vals (l.map fun c => tx [c]) acc.toList := vals_of_at (by rw [List.length_map, len_toL, hl]) fun j x w h1 h2 => by
    obtain ⟨c, t, e1, e2⟩ := hacc.2 j w (by rw [← Array.getElem?_toList]; exact h2)
    have e3 : l[j]? = some c := by simpa [tS] using e1
    rw [List.getElem?_map, e3] at h1
    cases h1
    subst e2
    exact ⟨t, rfl⟩
  exact ⟨.ref s.heap.objs.size, upd H s.heap.objs.size (.lst (l.map fun c => tx [c])), I.laid (t' := tk) hk (Nat.le_refl _)
    (show ObjOk X.prog X.w _ _ _ (.lst (l.map fun c => tx [c])) from ⟨by rw [List.length_map]; exact hz, acc.toList, c, hv, by rw [Array.toArray_toList]; exact hS⟩), rfl, q _ (I.hok.fresh (Nat.le_refl _))⟩
end
end L3
namespace L3
open PySem PySem.Spec PyProof.Rows L2
end L3
namespace L3
open PySem PySem.Spec PyProof.Rows L2
end L3
namespace L3
open PySem PySem.Spec PyProof.Rows L2
end L3
namespace L3
open PySem PySem.Spec PyProof.Rows L2
end L3
namespace L3
open PySem PySem.Spec PyProof.Rows L2
/-- the tracked heap at the law's call: the script (locked), where it is not written, and the tables -/
def H0 (K : PySem.W.Frag) (a : Addr) (vs : List Value) (ns : List Int) (cs : List (Addr × Addr)) : Hp := fun b =>
  if b = a then (if (K.lookup a).isSome then none else some (.frz { cls := .type "list", data := .seq vs.toArray } (.lst (ns.map V.int)))) else if b ∈ cs.map (·.2) then some (.tbl #[]) else none
theorem law_callG {P : Program} {w : World} {K : PySem.W.Frag} {mg mb : Str → Option Value} {k : Nat} {fa a : Addr} {cs : List (Addr × Addr)} {fd : FuncData} {x : Str} {sp : Sp} {s₁ : Shared} {vs : List Value} {ns : List Int}
    (KX : K.In s₁.heap) (hns : s₁.heap.Ns mainGlobals mg) (hb : s₁.heap.Ns builtinsNs mb) (hbb : ∀ x : Str, x ≠ "__name__" → mb x = bootBuiltins x) (hlim : s₁.heap.NoLimit) (hg : s₁.gens = #[])
    (hT : ∀ p ∈ cs, s₁.heap.get? p.2 = some { cls := .none, data := .fields #[] }) (nT : ∀ p ∈ cs, K.lookup p.2 = none) (C : ∀ p ∈ cs, PySem.W.CodeHd s₁.heap p.1 p.2)
    (hbm : ∃ (bm : Addr) (ob : Obj), mg "__builtins__" = some (.ref bm) ∧ bm ≠ builtinsNs ∧ s₁.heap.get? bm = some ob ∧ ob.cls = .type "module" ∧ ob.dict = some builtinsNs ∧ ob.data = .plain)
    (ha : s₁.heap.get? a = some { cls := .type "list", data := .seq vs.toArray }) (hi : IntsAre vs ns) (hl : ns.length ≤ sizeLine) (hr : Room k callerA)
    (F : ∀ base : Heap, K.In base → base.Ns mainGlobals mg → (∀ p ∈ cs, LamX.TabB base mg p.1 p.2) → FnOkG P w K mg base CX0 k fa fd [x] sp) (hbind : L2.Binds K fd [x] [])
    (hsp : ∀ H : Hp, (∀ p ∈ cs, H p.2 = some (.tbl #[])) → SqL K H a (ns.map V.int) → sp [.ref a] H (fun v _ => v = .bl true) fun _ _ _ => False) :
    codeAny (model P w) callerA (.call (.ref fa) ⟨[.ref a], []⟩) (fun r s' => r = .ok (.ret (.bool true)) ∧ OldK s₁.heap s'.heap ∧ s'.os = s₁.os ∧ AllBare s'.gens) s₁ := by
  have rv := vals_ints hi
  have lenV := hi.length
  have isT : ∀ b : Addr, b ∈ cs.map (·.2) → s₁.heap.get? b = some { cls := .none, data := .fields #[] } := fun b hb => by
    obtain ⟨p, hp, e⟩ := List.mem_map.mp hb
    rw [← e]; exact hT p hp
  have aT : a ∉ cs.map (·.2) := fun z => by
    have q := isT a z
    rw [ha] at q
    cases congrArg Obj.data (Option.some.inj q)
  have memT : ∀ p ∈ cs, p.2 ∈ cs.map (·.2) := fun p hp => List.mem_map.mpr ⟨p, hp, rfl⟩
  -- the three cases of H0
  have hcase : ∀ b, (b = a ∧ H0 K a vs ns cs b = none ∧ (K.lookup a).isSome = true) ∨ (b = a ∧ K.lookup a = none ∧ H0 K a vs ns cs b = some (.frz { cls := .type "list", data := .seq vs.toArray } (.lst (ns.map V.int)))) ∨
      (b ≠ a ∧ b ∈ cs.map (·.2) ∧ H0 K a vs ns cs b = some (.tbl #[])) ∨ (b ≠ a ∧ b ∉ cs.map (·.2) ∧ H0 K a vs ns cs b = none) := fun b => by
    unfold H0
    by_cases e : b = a
    · rw [if_pos e]
      cases hk : K.lookup a with
      | some o => exact .inl ⟨e, rfl, rfl⟩
      | none => exact .inr (.inl ⟨e, rfl, rfl⟩)
    · rw [if_neg e]
      by_cases e2 : b ∈ cs.map (·.2)
      · rw [if_pos e2]; exact .inr (.inr (.inl ⟨e, e2, rfl⟩))
      · rw [if_neg e2]; exact .inr (.inr (.inr ⟨e, e2, rfl⟩))
  have tabAt : ∀ p ∈ cs, H0 K a vs ns cs p.2 = some (.tbl #[]) := fun p hp => by
    rcases hcase p.2 with ⟨e, _⟩ | ⟨e, _⟩ | ⟨_, _, z⟩ | ⟨_, n, _⟩
    · exact absurd (e ▸ memT p hp) aT
    · exact absurd (e ▸ memT p hp) aT
    · exact z
    · exact absurd (memT p hp) n
  have free : ∀ {b : Addr} {o : Obj}, s₁.heap.get? b = some o → (∀ vs n, o.data ≠ .seq vs n) → o.data ≠ .fields #[] → H0 K a vs ns cs b = none := fun {b o} e h1 h2 => by
    rcases hcase b with ⟨_, z, _⟩ | ⟨e', _⟩ | ⟨_, e', _⟩ | ⟨_, _, z⟩
    · exact z
    · rw [e', ha] at e
      cases e
      exact absurd rfl (h1 _ _)
    · rw [isT b e'] at e
      cases e
      exact absurd rfl h2
    · exact z
  have nsK : ∀ {b : Addr} {m : Str → Option Value}, s₁.heap.Ns b m → (hidT s₁.heap (H0 K a vs ns cs)).Ns b m := fun {b m} ⟨o, es, ep, e, d, r⟩ =>
    ⟨o, es, ep, hidT_get e (free e (fun vs n z => by rw [d] at z; cases z) fun z => by rw [d] at z; cases z), d, r⟩
  have hKb : K.In (hidT s₁.heap (H0 K a vs ns cs)) := fun b o e => hidT_get (KX b o e) (by
    rcases hcase b with ⟨_, z, _⟩ | ⟨e', n, _⟩ | ⟨_, e', _⟩ | ⟨_, _, z⟩
    · exact z
    · rw [e', n] at e; cases e
    · obtain ⟨p, hp, ep⟩ := List.mem_map.mp e'
      rw [← ep, nT p hp] at e
      cases e
    · exact z)
  have hM : L2.Mod K mg (hidT s₁.heap (H0 K a vs ns cs)) := ⟨hKb, nsK hns, ⟨mb, nsK hb, hbb⟩, let ⟨mc, h1, h2⟩ := hlim; ⟨mc, nsK h1, h2⟩⟩
  have TB : ∀ p ∈ cs, LamX.TabB (hidT s₁.heap (H0 K a vs ns cs)) mg p.1 p.2 := fun p hp => by
    have hTp := hT p hp
    refine ⟨?_, ?_, fun z => ?_⟩
    · obtain ⟨o, us, file, tf, flags, tg, inF, text, tt, e1, r1, r2, r3, r⟩ := C p hp
      refine ⟨o, us, file, tf, flags, tg, inF, text, tt, hidT_get e1 (free e1 (fun vs n z => by rw [r2] at z; cases z) fun z => ?_), r1, r2, r3, r⟩
      rw [r2] at z
      cases z
      simp at r3
    · obtain ⟨bm, ob, b1, b2, b3, b4, b5, b6⟩ := hbm
      refine ⟨bm, ob, b1, b2, fun q => ?_, fun q => ?_, hidT_get b3 (free b3 (fun vs n z => by rw [b6] at z; cases z) fun z => by rw [b6] at z; cases z), b4, b5, b6⟩
      · obtain ⟨o, es, ep, e, hd, _⟩ := hns
        rw [q, e] at b3
        cases b3
        rw [hd] at b6
        cases b6
      · rw [q, hTp] at b3
        cases b3
        cases b6
    · obtain ⟨o, es, ep, e, hd, _⟩ := hns
      rw [z, hTp] at e
      cases e
      cases hd
  have hok : HOk P w (H0 K a vs ns cs) s₁.heap := fun b u z => by
    rcases hcase b with ⟨_, n, _⟩ | ⟨e', _, q⟩ | ⟨_, e', q⟩ | ⟨_, _, n⟩
    · rw [n] at z; cases z
    · rw [q] at z
      cases z
      rw [e']
      exact ⟨ha, by rw [List.length_map]; exact hl, vs, _, rv, ha⟩
    · rw [q] at z
      cases z
      exact isT b e'
    · rw [n] at z; cases z
  have hS : SqL K (H0 K a vs ns cs) a (ns.map V.int) := by
    rcases hcase a with ⟨_, _, hk⟩ | ⟨_, _, q⟩ | ⟨n, _⟩ | ⟨n, _⟩
    · obtain ⟨o, hk⟩ := Option.isSome_iff_exists.mp hk
      have e := KX a o hk
      rw [ha] at e
      cases e
      exact .inr ⟨_, vs.toArray, _, hk, rfl, rfl, rfl, by rw [List.size_toArray, lenV]; exact hl, by simpa using rv⟩
    · exact .inl (.inr ⟨_, q⟩)
    · exact absurd rfl n
    · exact absurd rfl n
  have e0 : Env0 P w K mg (hidT s₁.heap (H0 K a vs ns cs)) callerA [] s₁ (H0 K a vs ns cs) := ⟨rfl, hM, fun b o e => of_hidT e, Nat.le_of_eq (hidT_size _ _), trivial, fun b hb => absurd (show b ∈ ([] : List Addr) from hb) (by simp), hok, .of_eq hg⟩
  refine codeAny_mono ((F _ hKb (nsK hns) TB).run callerA [] s₁ (H0 K a vs ns cs) ⟨[.ref a], []⟩ [.ref a] [.ref a] _ _ hr rfl e0 (hbind s₁ [.ref a] KX rfl) (.cons rfl .nil) (hsp _ tabAt hS)) fun r s' h => ?_
  cases r with
  | error e => exact (show False from h).elim
  | ok fl =>
    cases fl with
    | next => exact False.elim h
    | brk => exact False.elim h
    | cont => exact False.elim h
    | ret u =>
      obtain ⟨v, H', os, bare, un, hok', r', q⟩ := h
      have q' : v = .bl true := q
      subst q'
      obtain rfl : u = Value.bool true := r'
      have key : ∀ b o, b ∉ cs.map (·.2) → s₁.heap.get? b = some o → s'.heap.get? b = some o := fun b o nb e => by
        rcases hcase b with ⟨_, n, _⟩ | ⟨_, _, z⟩ | ⟨_, e', _⟩ | ⟨_, _, n⟩
        · exact un.keep b o e n (fun z => absurd (show b ∈ ([] : List Addr) from z) (by simp)) (by simp)
        · have z2 := un.frzs b _ _ z
          obtain ⟨e1, _⟩ := hok b _ z
          obtain ⟨e2, _⟩ := hok' b _ z2
          rw [e] at e1
          cases e1
          exact e2
        · exact absurd e' nb
        · exact un.keep b o e n (fun z => absurd (show b ∈ ([] : List Addr) from z) (by simp)) (by simp)
      have grown : ∀ p ∈ cs, ∃ more : Array Value, s'.heap.get? p.2 = some { cls := .none, data := .fields more } := fun p hp => by
        obtain ⟨more, z⟩ := un.tbls p.2 #[] (tabAt p hp)
        exact ⟨_, hok' p.2 _ z⟩
      refine ⟨rfl, ⟨fun b o e => ?_, fun b o e => ?_⟩, os, bare⟩
      · by_cases hb : b ∈ cs.map (·.2)
        · obtain ⟨p, hp, ep⟩ := List.mem_map.mp hb
          obtain ⟨more, hm⟩ := grown p hp
          rw [← ep] at e ⊢
          rw [hT p hp] at e
          cases e
          exact .inr (.inl ⟨((C p hp).tab (hT p hp)).isCodeTable, rfl, #[], more, rfl, by rw [Array.empty_append]; exact hm⟩)
        · exact .inl (key b o hb e)
      · by_cases hb : b ∈ cs.map (·.2)
        · obtain ⟨p, hp, ep⟩ := List.mem_map.mp hb
          obtain ⟨more, hm⟩ := grown p hp
          rw [← ep]
          exact ⟨_, hm⟩
        · exact ⟨o, key b o hb e⟩
end L3
namespace L3
open PySem PySem.Spec PyProof.Rows L2
theorem same_upd {H : Hp} {p : Addr} {o : HO} (h : H p = none) : Same H (upd H p o) := fun b x e => by
  rw [upd_ne (ne_of_none e h)]
  exact e
theorem same_up {H H' : Hp} {p : Addr} {o : HO} (s : Same H H') (h : H p = none) : Same H (upd H' p o) := fun b x e => by
  rw [upd_ne (ne_of_none e h)]
  exact s b x e
/-- a comprehension: R of the heap, A of the list so far -/
theorem lc_gen {J : It} {n : Nat} {G : Hp → Prop} {Y : Nat → Hp → V → Hp → Prop} (w : Walk J n G Y) {g : TG} {tt : TT} {te : TE} {vs : List Nat} {σ : L2.St} {H1 : Hp} {D : Addr} {Qd : Hp → Prop} (R : Hp → Prop) (A : Nat → List V → Prop) (hz : n ≤ sizeLine) (hA : ∀ i acc, A i acc → acc.length ≤ i)
    (h0 : A 0 []) (r0 : R (upd H1 D (.lst []))) (r1 : ∀ H x, R H → R (upd H D x)) (hG : ∀ H, R H → G H)
    (hs : ∀ i x H H' acc (C : VK) (N : Hp → Prop), i < n → R H → H D = some (.lst acc) → A i acc → Y i H x H' → (∀ v H4, R H4 → H4 D = some (.lst acc) → A (i + 1) (acc ++ [v]) → C v H4) → (∀ H3, R H3 → H3 D = some (.lst acc) → A (i + 1) acc → N H3) →
      g x (wipe σ vs) H' fun σ2 H2 => wipe σ2 vs = wipe σ vs ∧ tt σ2 H2 fun b H3 => if b = true then te σ2 H3 C else N H3)
    (hd : ∀ H xs, R H → H D = some (.lst xs) → A n xs → Qd H) :
    ∃ W : Nat → Nat → Hp → Prop, (∃ m, W 0 m (upd H1 D (.lst []))) ∧ ∀ i m H, W i m H →
      (J.stop i H ∧ Qd H) ∨ (J.go i H ∧ ∃ Nx : Hp → Prop, (∀ H', Nx H' → ∃ m', m' < m ∧ W (i + 1) m' H') ∧ ∀ x H', J.yld i H x H' → g x (wipe σ vs) H' fun σ2 H2 => wipe σ2 vs = wipe σ vs ∧ tt σ2 H2 fun b H3 =>
        if b = true then te σ2 H3 fun y H4 => ∃ acc, H4 D = some (.lst acc) ∧ acc.length < sizeLine ∧ Nx (upd H4 D (.lst (acc ++ [y]))) else Nx H3) := by
  refine lc_it w (fun i H => R H ∧ ∃ acc, H D = some (.lst acc) ∧ A i acc) ⟨r0, [], upd_same, h0⟩ (fun i H _ p => hG H p.1) (fun i x H H' hi p y => ?_) fun H p => ?_
  · obtain ⟨rH, acc, hD, ha⟩ := p
    refine hs i x H H' acc _ _ hi rH hD ha y (fun v H4 r4 d4 a4 => ⟨acc, d4, ?_, r1 _ _ r4, _, upd_same, a4⟩) (fun H3 r3 d3 a3 => ⟨r3, acc, d3, a3⟩)
    have := hA i acc ha
    omega
  · obtain ⟨rH, acc, hD, ha⟩ := p
    exact hd H acc rH hD ha
/-- no test -/
theorem yes_te {te : TE} {σ : L2.St} {H : Hp} {C : VK} {N : Hp → Prop} (h : te σ H C) : tYes σ H fun b H3 => if b = true then te σ H3 C else N H3 := by
  show (if true = true then te σ H C else N H)
  rw [if_pos rfl]
  exact h
section
variable {X : Cx}
theorem call_lenT : CallR X (.builtin "len") (fun xs H Q => ∃ l, xs = [tx l] ∧ l.length ≤ sizeLine ∧ Q (.int (l.length : Int)) H) := by
  intro pins s σ H xs us Q I r h
  obtain ⟨l, rfl, hz, q⟩ := h
  exact call_len_str pins s σ H _ us Q I r ⟨_, rfl, by rw [tS_len]; exact hz, by rw [tS_len]; exact q⟩
theorem ix_tx : IxR X (fun x y H Q => ∃ (l : List Nat) (i c : Nat), x = tx l ∧ y = .int (i : Int) ∧ l.length ≤ sizeLine ∧ l[i]? = some c ∧ Q (tx [c]) H) := by
  intro value slice pins s σ H x y v u Q I rx ry h hs
  obtain ⟨l, i, c, rfl, rfl, hz, he, q⟩ := h
  exact ix_str value slice pins s σ H _ _ v u Q I rx ry ⟨_, _, c, rfl, rfl, by rw [tS_len]; exact hz, atI_nat he, q⟩ hs
end
theorem walk_tx {l : List Nat} : Walk (Its (tS l)) l.length (fun _ => True) (fun i H v H' => H' = H ∧ ∃ c, l[i]? = some c ∧ v = tx [c]) := by
  have e : (tS l).cps.size = l.length := tS_len l
  refine ⟨fun i _ hi _ => ?_, fun _ _ => ?_, fun i H v H' _ _ y => ?_⟩
  · show i < (tS l).cps.size
    rw [e]; exact hi
  · show (tS l).cps.size ≤ l.length
    rw [e]; exact Nat.le_refl _
  · obtain ⟨h1, c, h2, h3⟩ := y
    exact ⟨h1, c, by simpa [tS] using h2, h3⟩
/-- a def whose code object is told -/
theorem okC {P : Program} {w : World} {K : PySem.W.Frag} {mg : Str → Option Value} {base : Heap} {x qual : Str} {st : Stmt} {f : Addr} {fd : FuncData} {N ps : List Str} {k : Nat} {sp : Sp} (F : Fun K x qual st f fd) (S : FnScope N ps (defScope st)) (len : ∀ vs H Q E, sp vs H Q E → vs.length = ps.length)
    (hbody : ∀ (A : Around) (outer : List Env) (s : Shared) (H : Hp) (vs : List V) (Q : VK) (E : XK), Room k (A.deeper (envOfC qual (defScope st) s.heap.objs.size f fd.code)) → A.guards = some [] → sp vs H Q E →
      ∃ t, PSs (cxOf CX0 P w K mg base N qual (defScope st) f fd.code A outer s H E).nox (defBody st) t ∧ t { nx := fun _ H' => Q .non H', rt := Q } (L2.start N vs) H) : FnOkG P w K mg base CX0 (k + 1) f fd ps sp := by
  obtain ⟨oc, od, kV, doc, pm, an, cdv, ct, osl, rfl, lk, hcd⟩ := F.ex
  refine fn_ofG lk hcd S len fun A outer s H vs Q E hr hg hsp => ?_
  obtain ⟨t, h, q⟩ := hbody A outer s H vs Q E hr hg hsp
  exact ⟨t, h.nox, q⟩
end L3
namespace L3
open PySem PySem.Spec PyProof.Rows L2
/-- what repr asks of data -/
structure Shw (d : PyData) : Prop where
  s : d.showable = true
  z : d.shown.length ≤ sizeLine
  p : d.depth ≤ 50
def dTx (ls : List (List Nat)) : List PyData := ls.map fun l => PyData.str (tS l)
theorem dp_txs {K : PySem.W.Frag} {H : Hp} : ∀ ls : List (List Nat), DpAll K H (ls.map tx) (dTx ls)
  | [] => .nil
  | l :: ls => .cons (.str _) (dp_txs ls)
def k1 {α : Type} : List α → List α → List α
  | [], [w] => [w]
  | _, _ => []
def k2 {α : Type} : List α → List α → List α
  | [], [w, v] => [v, w]
  | _, _ => []
end L3
namespace L3
open PySem PySem.Spec PyProof.Rows L2
end L3
namespace L3
open PySem PySem.Spec PyProof.Rows L2
end L3
namespace L3
open PySem PySem.Spec PyProof.Rows L2
theorem sq_put {K : PySem.W.Frag} {a D : Addr} {xs : List V} {H : Hp} {o : HO} (h : SqL K H a xs) (n : a ≠ D) : SqL K (upd H D o) a xs := by
  rcases h with (h | ⟨o', h⟩) | h
  · exact .inl (.inl (by rw [upd_ne n]; exact h))
  · exact .inl (.inr ⟨o', by rw [upd_ne n]; exact h⟩)
  · exact .inr h
theorem sq_new {K : PySem.W.Frag} {a D : Addr} {xs : List V} {H : Hp} {o : HO} (h : SqL K H a xs) (n : H D = none) : SqL K (upd H D o) a xs := by
  rcases h with (h | ⟨o', h⟩) | h
  · exact .inl (.inl (same_upd n _ _ h))
  · exact .inl (.inr ⟨o', same_upd n _ _ h⟩)
  · exact .inr h
theorem sq_same {K : PySem.W.Frag} {a : Addr} {xs : List V} {H H' : Hp} (h : SqL K H a xs) (s : Same H H') : SqL K H' a xs := by
  rcases h with (h | ⟨o', h⟩) | h
  · exact .inl (.inl (s _ _ h))
  · exact .inl (.inr ⟨o', s _ _ h⟩)
  · exact .inr h
/-- what a statement's ends have in common -/
theorem join {t : TS} {D : Ends} {σ : L2.St} {H : Hp} (R : L2.St → Hp → Prop) (h : ∀ N : L2.St → Hp → Prop, (∀ σ' H', R σ' H' → N σ' H') → t { D with nx := N } σ H) (k : ∀ σ' H', R σ' H' → D.nx σ' H') : t D σ H := h D.nx k
theorem seq_to {t u : TS} {D : Ends} {σ : L2.St} {H : Hp} (h : t { D with nx := u D } σ H) : tSeq t u D σ H := h
end L3
namespace L3
open PySem PySem.Spec PyProof.Rows L2
/-- a comprehension: R of the heap, A of the list so far; R asked of heaps that hold the list -/
theorem lc_gen2 {J : It} {n : Nat} {G : Hp → Prop} {Y : Nat → Hp → V → Hp → Prop} (w : Walk J n G Y) {g : TG} {tt : TT} {te : TE} {vs : List Nat} {σ : L2.St} {H1 : Hp} {D : Addr} {Qd : Hp → Prop} (R : Hp → Prop) (A : Nat → List V → Prop) (hz : n ≤ sizeLine) (hA : ∀ i acc, A i acc → acc.length ≤ i)
    (h0 : A 0 []) (r0 : R (upd H1 D (.lst []))) (r1 : ∀ H acc acc', H D = some (.lst acc) → R H → R (upd H D (.lst acc'))) (hG : ∀ H, R H → G H)
    (hs : ∀ i x H H' acc (C : VK) (N : Hp → Prop), i < n → R H → H D = some (.lst acc) → A i acc → Y i H x H' → (∀ v H4, R H4 → H4 D = some (.lst acc) → A (i + 1) (acc ++ [v]) → C v H4) → (∀ H3, R H3 → H3 D = some (.lst acc) → A (i + 1) acc → N H3) →
      g x (wipe σ vs) H' fun σ2 H2 => wipe σ2 vs = wipe σ vs ∧ tt σ2 H2 fun b H3 => if b = true then te σ2 H3 C else N H3)
    (hd : ∀ H xs, R H → H D = some (.lst xs) → A n xs → Qd H) :
    ∃ W : Nat → Nat → Hp → Prop, (∃ m, W 0 m (upd H1 D (.lst []))) ∧ ∀ i m H, W i m H →
      (J.stop i H ∧ Qd H) ∨ (J.go i H ∧ ∃ Nx : Hp → Prop, (∀ H', Nx H' → ∃ m', m' < m ∧ W (i + 1) m' H') ∧ ∀ x H', J.yld i H x H' → g x (wipe σ vs) H' fun σ2 H2 => wipe σ2 vs = wipe σ vs ∧ tt σ2 H2 fun b H3 =>
        if b = true then te σ2 H3 fun y H4 => ∃ acc, H4 D = some (.lst acc) ∧ acc.length < sizeLine ∧ Nx (upd H4 D (.lst (acc ++ [y]))) else Nx H3) := by
  refine lc_it w (fun i H => R H ∧ ∃ acc, H D = some (.lst acc) ∧ A i acc) ⟨r0, [], upd_same, h0⟩ (fun i H _ p => hG H p.1) (fun i x H H' hi p y => ?_) fun H p => ?_
  · obtain ⟨rH, acc, hD, ha⟩ := p
    refine hs i x H H' acc _ _ hi rH hD ha y (fun v H4 r4 d4 a4 => ⟨acc, d4, ?_, r1 _ _ _ d4 r4, _, upd_same, a4⟩) (fun H3 r3 d3 a3 => ⟨r3, acc, d3, a3⟩)
    have := hA i acc ha
    omega
  · obtain ⟨rH, acc, hD, ha⟩ := p
    exact hd H acc rH hD ha
end L3
namespace L3
open PySem PySem.Spec PyProof.Rows L2
/-- an element that is a text, with the hash that the world gives it -/
def GoodT (w : World) (e : Int × Value) : Prop := ∃ l tk, e.2 = Value.str (tS l) tk ∧ e.1 = hashStr w (tS l)
def txtOf (e : Int × Value) : List Nat := match e.2 with | .str x _ => x.cps.toList | _ => []
theorem txt_tS (l : List Nat) (h : Int) (tk : Tok) : txtOf (h, Value.str (tS l) tk) = l := by simp [txtOf, tS]
theorem tS_txt (x : Str) : tS x.cps.toList = x := by cases x; simp [tS]
/-- the object at a is a set of the texts L -/
def SetT (w : World) (h : Heap) (a : Addr) (L : List (List Nat)) : Prop :=
  ∃ o es ep t, h.get? a = some o ∧ o.ExactSet ∧ o.data = .set es ep t ∧ (∀ e ∈ es.toList, GoodT w e) ∧ (es.toList.map txtOf).Perm L ∧ L.Nodup ∧
    es.size < scanBound ∧ t.fits es.size = true ∧ Ris t.place.toList ∧ (w.params.followText "set-order" = true ∨ t.led = true)
section
variable {P : Program} {w : World} {A : Around} {E : Value → Shared → Prop} {s : Shared} {a : Addr} {L : List (List Nat)}
theorem SetT.at {h h' : Heap} (R : SetT w h a L) (k : ∀ o, h.get? a = some o → h'.get? a = some o) : SetT w h' a L := by
  obtain ⟨o, es, ep, t, ho, r⟩ := R
  exact ⟨o, es, ep, t, k o ho, r⟩
theorem goodT_elems {l : List (Int × Value)} (g : ∀ e ∈ l, GoodT w e) : ElemsOf (PySem.strKind P w) l := fun e he => by
  obtain ⟨x, tk, h1, h2⟩ := g e he
  exact ⟨⟨tS x, by rw [h1]; exact strKind_is P w _ _, h2⟩, by rw [h1]; rfl⟩
theorem goodT_is {e : Int × Value} (g : GoodT w e) (l : List Nat) : (PySem.strKind P w).is (tS l) e.2 = true ↔ txtOf e = l := by
  obtain ⟨x, tk, h1, h2⟩ := g
  have e1 : txtOf e = x := by unfold txtOf; rw [h1]
  rw [e1, h1]
  show Value.isStrOf (tS l) (Value.str (tS x) tk) = true ↔ _
  constructor
  · intro h
    obtain ⟨u, hu⟩ := Value.isStrOf_shape h
    injection hu with hx
    have := congrArg (fun z : Str => z.cps.toList) hx
    simpa [tS] using this
  · rintro rfl
    exact strKind_is P w (tS _) tk
theorem setT_tail {g : Bool → Sem Unit} (hg : ∀ (b : Bool) (s₁ : Shared) (Q' : Unit → Shared → Prop), Q' () s₁ → wpAny (model P w) A (g b) Q' E s₁)
    {o : Obj} {es : Array (Int × Value)} {ep : Nat} {t : SetTable} (ho : s.heap.get? a = some o) (hex : o.ExactSet) (hd : o.data = .set es ep t)
    {es1 : Array (Int × Value)} {t2 : SetTable} {L' : List (List Nat)} (g1 : ∀ e ∈ es1.toList, GoodT w e) (p1 : (es1.toList.map txtOf).Perm L') (nd : L'.Nodup)
    (hb1 : es1.size < scanBound) (hf2 : t2.fits es1.size = true) (hr : Ris t2.place.toList) (hl : w.params.followText "set-order" = true ∨ t2.led = true) {wasDummy : Bool} {R : Option Bool → Shared → Prop}
    (hR : ∀ h', Heap.SameBut a s.heap h' → SetT w h' a L' → R (some true) { s with heap := h' }) :
    wpAny (model P w) A (do
        storeSet a es1 t2
        if (!wasDummy && t2.tooFull) = true then do
            g (relayAll t2 es1 (SetTable.grown es1.size)).2.2
            storeSet a (relayAll t2 es1 (SetTable.grown es1.size)).1 (relayAll t2 es1 (SetTable.grown es1.size)).2.1
            pure (some true)
          else pure (some true)) R E s := by
  refine wpAny_bind (wpAny_storeSet_of ho hd ?_ (fits_of_scanBound hb1))
  have q1 := store_at (es' := es1) (t' := t2) ho hd
  have sb := Heap.SameBut.update s.heap a (Obj.putSet es1 t2)
  split
  · have pm := relayAll_perm t2 es1 (SetTable.grown es1.size)
    have f3 := relayAll_fits t2 es1 (SetTable.grown es1.size)
    have r3 := relayAll_ris t2 es1 (SetTable.grown es1.size)
    have l3 := relayAll_led t2 es1 (SetTable.grown es1.size)
    generalize relayAll t2 es1 (SetTable.grown es1.size) = Z at pm f3 r3 l3 ⊢
    obtain ⟨es2, t3, gv⟩ := Z
    dsimp only at pm f3 r3 l3 ⊢
    have sz : es2.size = es1.size := by rw [← Array.length_toList, pm.length_eq, Array.length_toList]
    refine wpAny_bind (hg _ _ _ ?_)
    refine wpAny_bind (wpAny_storeSet_of q1 rfl ?_ (fits_of_scanBound (by rw [sz]; exact hb1)))
    refine wpAny_pure (hR _ (sb.trans (Heap.SameBut.update _ a _)) ⟨_, es2, _, t3, store_at (es' := es2) (t' := t3) q1 rfl, hex, rfl, fun e he => g1 e (pm.mem_iff.mp he), (pm.map txtOf).trans p1, nd, by rw [sz]; exact hb1, f3, r3, ?_⟩)
    rcases hl with z | z
    · exact .inl z
    · exact .inr (by rw [l3]; exact z)
  · exact wpAny_pure (hR _ sb ⟨_, es1, _, t2, q1, hex, rfl, g1, p1, nd, hb1, hf2, hr, hl⟩)
theorem setT_add {l : List Nat} {tk : Tok} {Q : Bool → Shared → Prop} (R : SetT w s.heap a L) (room : L.length + 1 < scanBound)
    (hQ : ∀ b h', Heap.SameBut a s.heap h' → SetT w h' a (if l ∈ L then L else L ++ [l]) → Q b { s with heap := h' }) :
    wpAny (model P w) A (setAddHashed a (.str (tS l) tk) ((PySem.strKind P w).hash (tS l))) Q E s := by
  obtain ⟨o, es, ep, t, ho, hex, hd, g, pL, nd, hb, hf, hr, hl⟩ := R
  have hkey : (PySem.strKind P w).is (tS l) (.str (tS l) tk) = true := strKind_is P w _ tk
  have hel : ElemsOf (PySem.strKind P w) es.toList := goodT_elems g
  have hn : es.size = L.length := by rw [← Array.length_toList, ← pL.length_eq, List.length_map]
  unfold setAddHashed setAddHashedIn
  refine wpAny_holding (wpAny_bind (wpAny_setState_of ho hd hf ?_))
  dsimp only
  rw [byScan_of (knd := PySem.strKind P w) rfl hb hel]
  simp only [↓reduceIte]
  unfold setAddByScan
  refine wpAny_bind ?_
  refine wpAny_bind (wpAny_rule ?_)
  refine wpAny_bind (wpAny_setScan_of hkey ho hd hf hel ?_)
  cases hfi : List.findIdx? (fun e => (PySem.strKind P w).is (tS l) e.2) es.toList with
  | some j =>
    dsimp only
    obtain ⟨hj, pj, _⟩ := List.findIdx?_eq_some_iff_getElem.mp hfi
    have hm : l ∈ L := pL.mem_iff.mp (List.mem_map.mpr ⟨_, List.getElem_mem hj, (goodT_is (P := P) (g _ (List.getElem_mem hj)) l).mp pj⟩)
    refine wpAny_pure (wpAny_pure ?_)
    have q := hQ false s.heap (Heap.SameBut.refl a s.heap) (by rw [if_pos hm]; exact ⟨o, es, ep, t, ho, hex, hd, g, pL, nd, hb, hf, hr, hl⟩)
    exact q
  | none =>
    dsimp only
    have hm : l ∉ L := fun z => by
      obtain ⟨e, he, q⟩ := List.mem_map.mp (pL.mem_iff.mpr z)
      have c := List.findIdx?_eq_none_iff.mp hfi e he
      rw [(goodT_is (P := P) (g e he) l).mpr q] at c
      cases c
    have hgw : ∀ (b : Bool) {s₁ : Shared} {Q' : Unit → Shared → Prop}, Q' () s₁ → wpAny (model P w) A (match b with | true => rule "set.scan.the-table-gave-way" | false => pure ()) Q' E s₁ :=
      fun b s₁ Q' q => by cases b <;> first | exact wpAny_pure q | exact wpAny_rule q
    have pm := layNew_perm t es ((PySem.strKind P w).hash (tS l)) (.str (tS l) tk)
    have hf1 := layNew_fits t es ((PySem.strKind P w).hash (tS l)) (.str (tS l) tk)
    have hr1 := layNew_ris t es ((PySem.strKind P w).hash (tS l)) (.str (tS l) tk) hr
    have hl1 := layNew_led t es ((PySem.strKind P w).hash (tS l)) (.str (tS l) tk)
    generalize layNew t es ((PySem.strKind P w).hash (tS l)) (.str (tS l) tk) = Z at pm hf1 hr1 hl1 ⊢
    obtain ⟨es1, t1, wd, gv⟩ := Z
    dsimp only at pm hf1 hr1 hl1 ⊢
    rw [Array.toList_push] at pm
    have g1 : ∀ e ∈ es1.toList, GoodT w e := fun e he => by
      rcases List.mem_append.mp (pm.mem_iff.mp he) with z | z
      · exact g e z
      · rw [List.mem_singleton.mp z]; exact ⟨l, tk, rfl, rfl⟩
    have p1 : (es1.toList.map txtOf).Perm (L ++ [l]) := by
      refine (pm.map txtOf).trans ?_
      rw [List.map_append, List.map_cons, List.map_nil, txt_tS]
      exact pL.append_right _
    have nd1 : (L ++ [l]).Nodup := by
      rw [List.nodup_append]
      refine ⟨nd, by simp, fun x hx y hy => ?_⟩
      rw [List.mem_singleton.mp hy]
      exact fun z => hm (z ▸ hx)
    have hsz : es1.size = L.length + 1 := by rw [← Array.length_toList, pm.length_eq, List.length_append, Array.length_toList, hn]; rfl
    have hb1 : es1.size < scanBound := by rw [hsz]; exact room
    have hled : w.params.followText "set-order" = true ∨ t1.led = true := by
      rcases hl with z | z
      · exact .inl z
      · exact .inr (by rw [hl1]; exact z)
    have fin : ∀ h', Heap.SameBut a s.heap h' → SetT w h' a (L ++ [l]) → Q true { s with heap := h' } := fun h' sb r => hQ true h' sb (by rw [if_neg hm]; exact r)
    refine wpAny_bind (hgw _ ?_)
    split
    · refine wpAny_bind ?_
      rw [hashByValue_scannable 8 rfl]
      refine wpAny_pure ?_
      refine setT_tail ?_ ho hex hd g1 p1 nd1 hb1 ?_ ?_ ?_ ?_
      · intro b s₁ Q' q; cases b <;> first | exact wpAny_pure q | exact wpAny_rule q
      · first | (split <;> first | exact hf1 | exact SetTable.fits_plain_off hf1) | exact hf1
      · first | (split <;> exact hr1) | exact hr1
      · first | (split <;> exact hled) | exact hled
      · intro h' sb r; dsimp only; exact wpAny_pure (fin h' sb r)
    · refine wpAny_bind (wpAny_pure ?_)
      simp only [↓reduceIte]
      refine setT_tail ?_ ho hex hd g1 p1 nd1 hb1 hf1 hr1 hled ?_
      · intro b s₁ Q' q; cases b <;> first | exact wpAny_pure q | exact wpAny_rule q
      · intro h' sb r; dsimp only; exact wpAny_pure (fin h' sb r)
end
end L3
namespace L3
open PySem PySem.Spec PyProof.Rows L2
/-- the first ones, each once -/
def ded (val : Nat → List Nat) : Nat → List (List Nat)
  | 0 => []
  | i + 1 => if val i ∈ ded val i then ded val i else ded val i ++ [val i]
theorem ded_len (val : Nat → List Nat) : ∀ i, (ded val i).length ≤ i
  | 0 => Nat.le_refl _
  | i + 1 => by
    have := ded_len val i
    unfold ded
    split
    · omega
    · rw [List.length_append]
      exact Nat.succ_le_succ this
theorem ded_mem (val : Nat → List Nat) (l : List Nat) : ∀ i, l ∈ ded val i ↔ ∃ j, j < i ∧ val j = l
  | 0 => by simp [ded]
  | i + 1 => by
    have ih := ded_mem val l i
    unfold ded
    split
    · rename_i h
      rw [ih]
      refine ⟨fun ⟨j, h1, h2⟩ => ⟨j, by omega, h2⟩, fun ⟨j, h1, h2⟩ => ?_⟩
      by_cases e : j = i
      · subst e
        rw [h2] at h
        exact ih.mp h
      · exact ⟨j, by omega, h2⟩
    · rw [List.mem_append, ih, List.mem_singleton]
      constructor
      · rintro (⟨j, h1, h2⟩ | h)
        · exact ⟨j, by omega, h2⟩
        · exact ⟨i, by omega, h.symm⟩
      · rintro ⟨j, h1, h2⟩
        by_cases e : j = i
        · exact .inr (by rw [← h2, e])
        · exact .inl ⟨j, by omega, h2⟩
section
variable {prog : Program} {w : World} {A : Around} {R : Result → Shared → Prop} {I : Addr} {fp wr : List Addr} {G : Array GenState → Array GenState → Prop} {n : Nat} {P : Nat → Value → Prop} {St : Nat → Shared → Prop}
theorem set_loopT (W : WalksS prog w A.in1 I fp wr G n P St) (S : Addr) (hSf : S ∉ fp) (val : Nat → List Nat) (hval : ∀ i v, P i v → ∃ t, v = Value.str (tS (val i)) t) (hb : n + 1 < scanBound) :
    ∀ (k i : Nat) (s : Shared), n - i = k → i ≤ n → St i s → SetT w s.heap S (ded val i) →
      (∀ s', Moved (S :: wr) G s s' → SetT w s'.heap S (ded val n) → R (.ok (.ret .none)) s') →
      codeAny (model prog w) A (.builtin "set.update.loop" ⟨[.ref S, .ref I], []⟩) R s := by
  have hSw : S ∉ wr := fun h => hSf (W.sub _ h)
  have sub : ∀ b ∈ wr, b ∈ S :: wr := fun b hb => List.mem_cons_of_mem _ hb
  intro k
  induction k with
  | zero =>
    intro i s hk hi hst hS hR
    obtain rfl : i = n := by omega
    refine codeAny_builtin PyProof.Rows.F.entry_set_update_loop ?_
    rw [Around.under_plainId PyProof.Rows.F.plain_set_update_loop _]
    show wpAny _ A.in1 (pyNext (.ref I) >>= _) _ _ s
    refine wpAny_bind (W.done s _ _ hst fun s' hm => ?_)
    show wpAny _ A.in1 (ret Value.none) _ _ s'
    exact wpAny_pure (hR s' (hm.mono sub) (hS.at fun o ho => hm.heap S _ hSw ho))
  | succ k ih =>
    intro i s hk hi hst hS hR
    have hlt : i < n := by omega
    refine codeAny_builtin PyProof.Rows.F.entry_set_update_loop ?_
    rw [Around.under_plainId PyProof.Rows.F.plain_set_update_loop _]
    show wpAny _ A.in1 (pyNext (.ref I) >>= _) _ _ s
    refine wpAny_bind (W.item i s _ _ hlt hst fun v s' hP hst' hm => ?_)
    obtain ⟨t, rfl⟩ := hval i v hP
    have hS' : SetT w s'.heap S (ded val i) := hS.at fun o ho => hm.heap S _ hSw ho
    show wpAny _ A.in1 (holding [Value.str (tS (val i)) t] (setAdd S (.str (tS (val i)) t)) >>= _) _ _ s'
    refine wpAny_bind (wpAny_holding ?_)
    unfold setAdd
    refine wpAny_holding ?_
    refine wpAny_bind ((PySem.strKind prog w).pyHash (k := tS (val i)) (strKind_is prog w _ t) ?_)
    have room : (ded val i).length + 1 < scanBound := by have := ded_len val i; omega
    refine setT_add (P := prog) (s := { s' with toks := s'.toks + 1 }) hS' room fun b h' sb hS2 => ?_
    refine wpAny_pure ⟨plainId_quiet PyProof.Rows.F.plain_set_update_loop _, ih (i + 1) _ (by omega) hlt (W.frame _ s' _ _ hst' (Nat.le_succ _) fun b hb o e => ?_) hS2 fun s'' hm'' hS'' => ?_⟩
    · rw [sb.2 b (fun h : b = S => hSf (by rw [← h]; exact hb))]; exact e
    · refine hR s'' (Moved.trans W.gtrans ((hm.mono sub).then_heap (Nat.le_succ _) fun b o hb e => ?_) hm'') hS''
      rw [sb.2 b (fun h : b = S => hb (by rw [h]; exact List.mem_cons_self))]; exact e
end
section
variable {P : Program} {w : World} {A : Around} {E : Value → Shared → Prop} {s : Shared}
theorem code_set_led1 (a : Value) {Q₁ : Value → Shared → Prop}
    (h : Q₁ (.ref s.heap.objs.size) { s with heap := s.heap.push { cls := .type "set", dict := none, data := .set #[] 0 (.fresh 0 0 (!w.params.followText "set-order")) } }) :
    codeAny (model P w) A (.call (.builtin "set.__new__") ⟨[.type "set", a], []⟩) (wants Q₁ E) s := by
  refine codeAny_of_tree ?_
  show wpAny _ A.in1 (do checkBuiltinCall "set.__new__" ⟨[.type "set", a], []⟩; again (.builtin "set.__new__" ⟨[.type "set", a], []⟩)) _ _ s
  refine wpAny_bind (wpAny_of_eq (PySem.F.newCall_set_1 a) (wpAny_pure ⟨plainId_quiet PySem.F.plain_set_new _, codeAny_builtin PySem.F.entry_set_new ?_⟩))
  rw [Around.under_plainId PySem.F.plain_set_new _]
  unfold Builtin.«set.__new__» Builtin.Frozenset.newClass
  have hsub := sub_set_self
  obtain ⟨hp, g, d, tk, os⟩ := s
  dsimp only
  wp_walk
  refine wpAny_askSetting (wpAny_pure ?_)
  dsimp only
  simp only [newObj]
  refine wpAny_bind (wpAny_alloc (wpAny_pure ?_))
  exact wpAny_pure h
theorem setT_fresh {h : Heap} (w : World) : SetT w (h.push { cls := .type "set", dict := none, data := .set #[] 0 (.fresh 0 0 (!w.params.followText "set-order")) }) h.objs.size [] := by
  refine ⟨_, #[], 0, _, Heap.get?_push_size _ rfl, ⟨rfl, rfl, rfl⟩, rfl, (fun e he => by simp at he), .refl _, List.nodup_nil, by decide, rfl, List.Pairwise.nil, ?_⟩
  show _ ∨ (!w.params.followText "set-order") = true
  cases w.params.followText "set-order"
  · exact .inr rfl
  · exact .inl rfl
end
end L3
namespace L3
open PySem PySem.Spec PyProof.Rows L2
theorem sub_str_set : isSubtype (.type "str") (.type "set") = pure false := by rw [isSubtype_type]; kernel_rfl
theorem sub_str_frozenset : isSubtype (.type "str") (.type "frozenset") = pure false := by rw [isSubtype_type]; kernel_rfl
section
variable {P : Program} {w : World} {A : Around} {E : Value → Shared → Prop} {s : Shared}
set_option maxHeartbeats 8000000 in
/-- set(text) -/
theorem call_set_text {x : List Nat} {tx0 : Tok} {Q : Value → Shared → Prop} (hh : A.handled = none) (hb : x.length + 1 < scanBound)
    (h : ∀ (h' : Heap) (tk : Nat), SetT w h' s.heap.objs.size (ded (fun i => [x.getD i 0]) x.length) →
      (∀ b o, b < s.heap.objs.size → s.heap.get? b = some o → h'.get? b = some o) → Q (.ref s.heap.objs.size) { s with heap := h', toks := tk }) :
    wpAny (model P w) A (call (.type "set") [.str (tS x) tx0]) Q E s := by
  obtain ⟨c, tl, hmro⟩ := PySem.F.called_set.mro
  have hmade := PySem.F.called_set.made
  have hsub := PySem.F.called_set.sub
  refine wpAny_call (codeAny_of_tree ?_)
  show wpAny _ _ (callAny (.type "set") _) _ _ _
  refine wpAny_pure ⟨Code.quiet_builtin _ (by decide +kernel), codeAny_builtin PySem.F.entry_type_call ?_⟩
  rw [Around.under_plain (weight_type_call_type "set" [.str (tS x) tx0] []) rfl]
  have h1 := PySem.F.called_set.notType
  have h2 := PySem.F.called_set.canCreate
  have hct := PySem.F.typeCall_set_1 (.str (tS x) tx0)
  repeat (any_goals (first | assumption | wp_step))
  refine codeAny_mono (code_set_led1 (.str (tS x) tx0) (E := E) (Q₁ := fun obj s₁ => obj = .ref s.heap.objs.size ∧ s₁ = { s with heap := s.heap.push { cls := .type "set", dict := none, data := .set #[] 0 (.fresh 0 0 (!w.params.followText "set-order")) } }) ⟨rfl, rfl⟩) fun r s₁ hr => ?_
  cases r with
  | error e => exact hr
  | ok fl =>
    cases fl with
    | ret obj =>
      obtain ⟨rfl, rfl⟩ := hr
      have hS : (s.heap.push { cls := .type "set", dict := none, data := .set #[] 0 (.fresh 0 0 (!w.params.followText "set-order")) }).get? s.heap.objs.size = some { cls := .type "set", dict := none, data := .set #[] 0 (.fresh 0 0 (!w.params.followText "set-order")) } := Heap.get?_push_size _ rfl
      have hT : Shared.TypeIs { s with heap := s.heap.push { cls := .type "set", dict := none, data := .set #[] 0 (.fresh 0 0 (!w.params.followText "set-order")) } } (.ref s.heap.objs.size) "set" := ⟨_, hS, rfl⟩
      have hli := PySem.F.called_set.init.lookup
      have hbi := PySem.F.called_set.init.bind (.ref s.heap.objs.size)
      repeat (any_goals (first | assumption | wp_step))
      refine codeAny_mono (codeAny_call_builtin (R := wants (fun r s₂ => r = .none ∧ ∃ h' tk, s₂ = { s with heap := h', toks := tk } ∧ SetT w h' s.heap.objs.size (ded (fun i => [x.getD i 0]) x.length) ∧
          (∀ b o, b < s.heap.objs.size → s.heap.get? b = some o → h'.get? b = some o)) E) PySem.F.called_set.init.plain PySem.F.entry_set_init (PySem.check_set_init_1 hT ?_)) fun r₂ s₂ hr₂ => ?_
      · have hsls := sub_str_set
        have hslf := sub_str_frozenset
        have hne : (Value.type "str" == Value.type "dict") = false := by decide
        unfold Builtin.«set.__init__» noKeywords Builtin.Frozenset.updateFrom
        generalize hPI : pyIter = PI
        wp_walk
        subst hPI
        refine wpAny_pyIter_str fun oi St hW hst => ?_
        refine wpAny_bind (wpAny_runValue ?_)
        have hh3 : A.in1.in1.in1.handled = none := by simp [hh]
        have hsz : (s.heap.push { cls := .type "set", dict := none, data := .set #[] 0 (.fresh 0 0 (!w.params.followText "set-order")) }).objs.size = s.heap.objs.size + 1 := Heap.size_push _ _
        have hSf : s.heap.objs.size ∉ [(s.heap.push { cls := .type "set", dict := none, data := .set #[] 0 (.fresh 0 0 (!w.params.followText "set-order")) }).objs.size] := by
          rw [hsz]
          simp
        have hn : (tS x).cps.size = x.length := tS_len x
        have hval : ∀ (i : Nat) (v : Value), SignAt (tS x) i v → ∃ t, v = Value.str (tS [x.getD i 0]) t := fun i v hv => by
          obtain ⟨c, u, hc, rfl⟩ := hv
          have hc' : x[i]? = some c := by simpa [tS] using hc
          refine ⟨u, ?_⟩
          rw [List.getD_eq_getElem?_getD, hc']
          rfl
        refine set_loopT ((hW _ hh3).toS) s.heap.objs.size hSf (fun i => [x.getD i 0]) hval (by rw [hn]; exact hb) _ 0 _ rfl (Nat.zero_le _) hst ((setT_fresh w).at fun o ho => Heap.get?_push_of_some _ ho) fun s' hm hS' => ?_
        obtain ⟨h', g', d', tk', os'⟩ := s'
        have eg : g' = s.gens := hm.gens
        have ed : d' = s.drawn := hm.drawn
        have eo : os' = s.os := hm.os
        subst eg ed eo
        rw [hn] at hS'
        show wpAny _ _ _ _ _ _
        refine wpAny_pure ?_
        show wpAny _ _ (ret Value.none) _ _ _
        refine wpAny_pure ⟨rfl, h', tk', rfl, hS', fun b o hb e => ?_⟩
        refine hm.heap b o (fun z => ?_) (Heap.get?_push_of_some _ (Heap.get?_push_of_some _ e))
        simp only [List.mem_cons, List.not_mem_nil, or_false] at z
        rcases z with z | z
        · exact absurd z (Nat.ne_of_lt hb)
        · rw [hsz] at z
          exact absurd z (Nat.ne_of_lt (Nat.lt_succ_of_lt hb))
      · cases r₂ with
        | error e => exact hr₂
        | ok fl₂ =>
          cases fl₂ with
          | ret r =>
            obtain ⟨rfl, h', tk, rfl, hS', hk'⟩ := hr₂
            repeat (any_goals (first | assumption | wp_step))
            exact h _ _ hS' hk'
          | _ => exact hr₂.elim
    | _ => exact hr.elim
end
end L3
namespace L3
open PySem PySem.Spec PyProof.Rows L2
def sVal (v : Value) : Str := match v with | .str x _ => x | _ => Str.empty
theorem strs_of : ∀ (l : List Value), (∀ v ∈ l, ∃ k tk, v = Value.str k tk) → StrsAre l (l.map sVal)
  | [], _ => .nil
  | v :: l, h => by
    obtain ⟨k, tk, rfl⟩ := h v List.mem_cons_self
    exact .cons k tk (strs_of l fun u hu => h u (List.mem_cons_of_mem _ hu))
section
variable {P : Program} {w : World} {A : Around} {E : Value → Shared → Prop} {s : Shared} {a : Addr} {L : List (List Nat)}
theorem sorted_setX {Q : Value → Shared → Prop} (R : SetT w s.heap a L) (hh : A.handled = none)
    (hQ : ∀ s' p (out : Array Value) (c : Nat) (ss : List Str), (∀ b o, s.heap.get? b = some o → s'.heap.get? b = some o) → s'.gens = s.gens → s'.os = s.os → s.heap.objs.size ≤ p →
      s'.heap.get? p = some (seqObj "list" out c) → StrsAre out.toList ss → ss.Perm (L.map tS) → sortedS ss = true → Q (.ref p) s') :
    wpAny (model P w) A (call (.builtin "sorted") [.ref a]) Q E s := by
  obtain ⟨o, es, ep, t, ho, hex, hd, g, pL, nd, hb, hf, hr, hl⟩ := R
  refine Calls.call_function_entry kind_sorted plain_sorted entry_sorted (args_sorted1 _) ?_
  unfold Builtin.«sorted»
  refine wpAny_bind (m := checkCount "sorted" 1 1 _) (wpAny_pure ?_)
  refine wpAny_bind (collect_set (A := A.in1) hh ⟨o, ho, hex.1, hd⟩ hf hb hr hl fun s1 vs k1 hz g1 o1 pm => ?_)
  have hvl : vs.length = es.size := by rw [pm.length_eq, List.length_map, Array.length_toList]
  have hS : StrsAre vs (vs.map sVal) := strs_of vs fun v hv => by
    obtain ⟨e, he, q⟩ := List.mem_map.mp (pm.mem_iff.mp hv)
    obtain ⟨x, tk, h1, _⟩ := g e he
    exact ⟨tS x, tk, by rw [← q]; exact h1⟩
  have pk : (vs.map sVal).Perm (L.map tS) := by
    refine (pm.map sVal).trans ?_
    rw [List.map_map]
    have e1 : es.toList.map (sVal ∘ fun x => x.2) = (es.toList.map txtOf).map tS := by
      rw [List.map_map]
      refine List.map_congr_left fun e he => ?_
      obtain ⟨x, tk, h1, _⟩ := g e he
      show sVal e.2 = tS (txtOf e)
      unfold txtOf
      rw [h1]
      show tS x = tS (tS x).cps.toList
      rw [tS_txt]
    rw [e1]
    exact pL.map tS
  have hL : vs.length ≤ sizeLine := by rw [hvl]; exact fits_of_scanBound hb
  refine wpAny_bind (wpAny_newList ?_ hL)
  have hoL : (s1.heap.push (seqObj "list" vs.toArray 0)).get? s1.heap.objs.size = some (seqObj "list" vs.toArray 0) := Heap.get?_push_size _ rfl
  refine wpAny_bind (wpAny_holding (wpAny_call_entry slot_list_sort ⟨_, hoL, rfl⟩ entry_list_sort (list_sort_treeKAny strKind_oneLt hoL hS.keysOf (fun v₁ v₂ rest e => keyKind_strs (by rw [← e]; exact hS)) hL fun st' hp hs => ⟨_, rfl, ?_⟩) (args_list_sort _)))
  obtain ⟨ss', a1, a2, a3⟩ := sorted_out_str hS hp hs
  obtain ⟨c, hc⟩ := sortedHeap_at (vs := vs) (out := (arrOf st').map (·.2)) hoL
  refine wpAny_pure ⟨_, rfl, hQ _ s1.heap.objs.size _ c ss' (fun b u e => ?_) g1 o1 hz hc a1 (a2.trans pk) a3⟩
  have q := k1 b u e
  have hlt := Heap.lt_size q
  show (sortedHeap (s1.heap.push (seqObj "list" vs.toArray 0)) s1.heap.objs.size vs _).get? b = some u
  rw [sortedHeap_old (Nat.ne_of_lt hlt) (by rw [size_push']; exact Nat.lt_succ_of_lt hlt)]
  exact Heap.get?_push_of_some _ q
end
end L3
namespace L3
open PySem PySem.Spec PyProof.Rows L2
/-- the set of the texts L at a -/
def TSet (w : World) (a : Addr) (L : List (List Nat)) : HO := .ext fun h => SetT w h a L
/-- the letters of a text, each once -/
def lets (l : List Nat) : List (List Nat) := ded (fun i => [l.getD i 0]) l.length
theorem lets_mem {l x : List Nat} : x ∈ lets l ↔ ∃ c, c ∈ l ∧ x = [c] := by
  unfold lets
  rw [ded_mem]
  constructor
  · rintro ⟨j, hj, rfl⟩
    refine ⟨l.getD j 0, ?_, rfl⟩
    rw [List.getD_eq_getElem?_getD, List.getElem?_eq_getElem hj]
    exact List.getElem_mem hj
  · rintro ⟨c, hc, rfl⟩
    obtain ⟨j, hj, rfl⟩ := List.getElem_of_mem hc
    exact ⟨j, hj, by rw [List.getD_eq_getElem?_getD, List.getElem?_eq_getElem hj]; rfl⟩
theorem rising_pair : ∀ (ss : List Str) (p : Str), risingS p ss = true → (p :: ss).Pairwise fun a b => ¬ b.cps.toList < a.cps.toList
  | [], p, _ => by simp
  | x :: ss, p, h => by
    have h : (!ltCps x.cps.toList p.cps.toList && risingS x ss) = true := h
    rw [Bool.and_eq_true, Bool.not_eq_true', ltCps_eq, decide_eq_false_iff_not] at h
    have ih := rising_pair ss x h.2
    refine List.pairwise_cons.mpr ⟨fun y hy => ?_, ih⟩
    rcases List.mem_cons.mp hy with rfl | hy
    · exact h.1
    · have h2 := (List.pairwise_cons.mp ih).1 y hy
      exact List.not_lt.mpr (List.le_trans (List.not_lt.mp h.1) (List.not_lt.mp h2))
theorem sorted_pair {ss : List Str} (h : sortedS ss = true) : ss.Pairwise fun a b => ¬ b.cps.toList < a.cps.toList := by
  cases ss with
  | nil => exact List.Pairwise.nil
  | cons x r => exact rising_pair r x h
theorem vals_strsT : ∀ {vs : List Value} {ss : List Str}, StrsAre vs ss → Vals ((ss.map fun z => z.cps.toList).map tx) vs
  | _, _, .nil => .nil
  | _, _, .cons y t k => .cons ⟨t, by show Value.str y t = Value.str (tS y.cps.toList) t; rw [tS_txt]⟩ (vals_strsT k)
theorem up_strict {L : List (List Nat)} (h : L.Pairwise fun a b => ¬ b < a) (d : L.Nodup) : L.Pairwise (· < ·) := by
  induction L with
  | nil => exact List.Pairwise.nil
  | cons x l ih =>
    obtain ⟨h1, h2⟩ := List.pairwise_cons.mp h
    obtain ⟨d1, d2⟩ := List.nodup_cons.mp d
    refine List.pairwise_cons.mpr ⟨fun y hy => ?_, ih h2 d2⟩
    rcases Decidable.em (x < y) with k | k
    · exact k
    · exact absurd (List.le_antisymm (List.not_lt.mp (h1 y hy)) (List.not_lt.mp k)) (fun z => d1 (z ▸ hy))
section
variable {X : Cx}
theorem tset_new {w : World} {P : Program} {H : Hp} {h : Heap} {a : Addr} {L : List (List Nat)} (R : SetT w h a L) : ObjOk P w H h a (TSet w a L) := by
  obtain ⟨o, es, ep, t, ho, r⟩ := id R
  exact ⟨R, ⟨o, ho⟩, fun h1 h2 p k => SetT.at p k⟩
/-- set(text) -/
theorem cr_setT (hc : X.calm = true) : CallR X (.type "set") (fun xs H Q => ∃ l, xs = [tx l] ∧ l.length ≤ 4000 ∧ ∀ p, H p = none → Q (.ref p) (upd H p (TSet X.w p (lets l)))) := by
  intro pins s σ H xs us Q I r h
  obtain ⟨l, rfl, hz, q⟩ := h
  obtain ⟨u, rfl, rx⟩ := vals1 r
  obtain ⟨t, rfl⟩ := rx
  refine call_set_text (I.ok.hd hc) (by unfold scanBound; omega) fun h' tk hS hk => ?_
  exact ⟨.ref _, _, I.laid (t' := tk) (fun b o e => hk b o (Heap.lt_size e) e) (Nat.le_refl _) (tset_new hS), rfl, q _ (I.hok.fresh (Nat.le_refl _))⟩
/-- sorted(set) -/
theorem cr_sortSetT (hc : X.calm = true) : CallR X (.builtin "sorted") (fun xs H Q => ∃ (a : Addr) (L : List (List Nat)), xs = [.ref a] ∧ H a = some (TSet X.w a L) ∧
    ∀ (L' : List (List Nat)) (p : Addr), L'.Perm L → L'.Pairwise (· < ·) → H p = none → Q (.ref p) (upd H p (.lst (L'.map tx)))) := by
  intro pins s σ H vs us Q I r h
  obtain ⟨a, L, rfl, ha, q⟩ := h
  have R : SetT X.w s.heap a L := (I.hok a _ ha).1
  rw [Vals.ref1 r]
  have nd : L.Nodup := by obtain ⟨_, _, _, _, _, _, _, _, _, n, _⟩ := R; exact n
  have hLs : L.length ≤ sizeLine := by
    obtain ⟨_, es, _, _, _, _, _, _, pL, _, hb, _⟩ := R
    rw [← pL.length_eq, List.length_map, Array.length_toList]
    exact fits_of_scanBound hb
  refine sorted_setX R (I.ok.hd hc) fun s' p out c ss k g o hp hg hi pm hs => ?_
  have pL' : (ss.map fun z => z.cps.toList).Perm L := by
    have := pm.map fun z : Str => z.cps.toList
    rw [List.map_map] at this
    have e : L.map ((fun z : Str => z.cps.toList) ∘ tS) = L := by
      conv => rhs; rw [← List.map_id L]
      refine List.map_congr_left fun l _ => ?_
      simp [tS]
    rwa [e] at this
  have hn : H p = none := I.hok.fresh hp
  have J : Inv X pins σ (upd H p (.lst ((ss.map fun z => z.cps.toList).map tx))) { s with heap := s'.heap, gens := s'.gens, drawn := s'.drawn, toks := s'.toks } :=
    I.call (ch := []) (Un.laid k hp hn) (I.hok.laid k hp ⟨by rw [List.length_map, pL'.length_eq]; exact hLs, out.toList, c, vals_strsT hi, hg⟩) (by rw [g]; exact I.bare) (fun _ z => nomatch z)
  have e : s' = { s with heap := s'.heap, gens := s'.gens, drawn := s'.drawn, toks := s'.toks } := by
    cases s'
    cases s
    cases o
    rfl
  rw [e]
  refine ⟨.ref p, _, J, rfl, q _ p pL' (up_strict ?_ (pL'.nodup_iff.mpr nd)) hn⟩
  rw [List.pairwise_map]
  exact sorted_pair hs
end
end L3
namespace L3
open PySem PySem.Spec PyProof.Rows L2
section
variable {X : Cx} {C f : Addr} {fd : FuncData} {k : Nat} {sp : Sp} {E : XK} {y : Str}
/-- a method run from inside a built-in -/
theorem run_own {pins : List (Addr × Obj)} {σ : L2.St} {H : Hp} {s : Shared} {ps : List Str} {us : List Value} {vs : List V} {Q : VK} {R : Value → Shared → Prop} (F : FnOkG X.prog X.w X.K X.mg X.base CX0 k f fd ps sp) (hr : Room (k + 1) X.A) (hG : X.A.guards = some []) (hb : L2.Binds X.K fd ps [])
    (I : L2.Inv X pins σ H s) (r : Vals vs us) (h : sp vs H Q E0) (hR : ∀ u s', EP X pins σ Q u s' → R u s') {E' : Value → Shared → Prop} : wpAny (model X.prog X.w) X.A.in1 (call (.ref f) us) R E' s := by
  have hl : (us ++ []).length = ps.length := by rw [List.append_nil, ← r.length]; exact F.len _ _ _ _ h
  have hb' : BindsTo s fd ⟨us, []⟩ (ps.zip us) := by
    have := hb s us I.kIn hl
    rwa [List.append_nil] at this
  refine wpAny_call (codeAny_mono (F.run X.A.in1 X.stack s H ⟨us, []⟩ us vs Q E0 hr.in1 hG I.env0.in1 hb' r h) fun r s' hq => ?_)
  cases r with
  | error e => exact (show False from hq).elim
  | ok fl =>
    cases fl with
    | ret u => exact hR u s' (I.after hq)
    | next => exact False.elim hq
    | brk => exact False.elim hq
    | cont => exact False.elim hq
/-- len(o) -/
theorem cr_lenOwn (F : FnOkG X.prog X.w X.K X.mg X.base CX0 k f fd ["self"] sp) (hr : Room (k + 1) X.A) (hG : X.A.guards = some []) (hb : L2.Binds X.K fd ["self"] []) (m : Meth X.K C "__len__" f) :
    CallR X (.builtin "len") (fun xs H Q => ∃ a dx fs, xs = [.ref a] ∧ H a = some (.ins C dx fs) ∧ sp [.ref a] H (fun v H' => ∃ n : Nat, v = .int (n : Int) ∧ n ≤ sizeLine ∧ Q (.int (n : Int)) H') E0) := by
  intro pins s σ H xs us Q I r h
  obtain ⟨a, dx, fs, rfl, ha, h⟩ := h
  rw [Vals.ref1 r]
  obtain ⟨mA, O, _⟩ := ins_get I.hok ha
  obtain ⟨od, J, _⟩ := O.look
  obtain ⟨mm, FF⟩ := I.fr
  refine PySem.W.len_K FF I.ok.mod.kin J m.at_ m.fn (run_own (vs := [.ref a]) (us := [.ref a]) F hr hG hb I (.cons rfl .nil) h fun u s' hq => ?_)
  obtain ⟨v, H', I', rv, n, rfl, hn, q⟩ := hq
  obtain ⟨t, rfl⟩ := rv
  exact ⟨⟨by omega, by rw [sizeLine_eq] at hn; omega⟩, .int (n : Int), H', I'.tok _, ⟨_, rfl⟩, q⟩
/-- repr(o) -/
theorem cr_reprOwn (F : FnOkG X.prog X.w X.K X.mg X.base CX0 k f fd ["self"] sp) (hr : Room (k + 1) X.A) (hG : X.A.guards = some []) (hb : L2.Binds X.K fd ["self"] []) (m : Meth X.K C "__repr__" f) :
    CallR X (.builtin "repr") (fun xs H Q => ∃ a dx fs, xs = [.ref a] ∧ H a = some (.ins C dx fs) ∧ sp [.ref a] H (fun v H' => ∃ z : Str, v = .str z ∧ Q (.str z) H') E0) := by
  intro pins s σ H xs us Q I r h
  obtain ⟨a, dx, fs, rfl, ha, h⟩ := h
  rw [Vals.ref1 r]
  obtain ⟨mA, O, _⟩ := ins_get I.hok ha
  obtain ⟨od, J, _⟩ := O.look
  obtain ⟨mm, FF⟩ := I.fr
  have hu := hr.units
  refine PySem.W.repr_K (by show X.A.units + 1 < cLine; omega) FF I.ok.mod.kin J m.at_ m.fn (run_own (vs := [.ref a]) (us := [.ref a]) F hr hG hb I (.cons rfl .nil) h fun u s' hq => ?_)
  obtain ⟨v, H', I', rv, z, rfl, q⟩ := hq
  obtain ⟨t, rfl⟩ := rv
  exact ⟨.str z, H', I', ⟨t, rfl⟩, q⟩
/-- x in o -/
theorem op_inOwn (F : FnOkG X.prog X.w X.K X.mg X.base CX0 k f fd ["self", y] sp) (hr : Room (k + 1) X.A) (hG : X.A.guards = some []) (hb : L2.Binds X.K fd ["self", y] []) (m : Meth X.K C "__contains__" f) :
    OpR X (compareOp .In) (fun x o H Q => ∃ a dx fs, o = .ref a ∧ H a = some (.ins C dx fs) ∧ sp [.ref a, x] H (fun v H' => ∃ b : Bool, v = .bl b ∧ Q (.bl b) H') E0) := by
  intro pins s σ H x o v u Q I rx ro h
  obtain ⟨a, dx, fs, rfl, ha, h⟩ := h
  cases ro
  obtain ⟨mA, O, _⟩ := ins_get I.hok ha
  obtain ⟨od, J, _⟩ := O.look
  obtain ⟨mm, FF⟩ := I.fr
  refine PySem.W.in_K FF I.ok.mod.kin J m.at_ m.fn ?_
  refine thn (run_fnG (vs := [.ref a, x]) (us := [.ref a, v]) (ws := [.ref a, v]) (kw := []) F (hr.mono (Nat.le_succ k)) hG pass0 I (hb s [.ref a, v] I.kIn rfl) (.cons rfl (.cons rx .nil)) h) fun u s' hq => ?_
  obtain ⟨w, H', I', rw', b, rfl, q⟩ := hq
  cases rw'
  cases b
  · exact wpAny_pure ⟨.bl false, H', I', rfl, q⟩
  · exact wpAny_pure ⟨.bl true, H', I', rfl, q⟩
end
end L3
namespace L3
open PySem PySem.Spec PyProof.Rows L2
/-- what is walked -/
inductive Src where
  | L (a : Addr) | T (a : Addr) | S (x : Str)
/-- its items -/
def Src.has (K : PySem.W.Frag) (H : Hp) : Src → List V → Prop
  | .L a, xs => SqL K H a xs
  | .T a, xs => SqT K H a xs
  | .S x, xs => xs = x.cps.toList.map fun c => V.str ⟨#[c]⟩
def Src.val : Src → V
  | .L a => .ref a
  | .T a => .ref a
  | .S x => .str x
def Src.it : Src → Addr → Nat → Heap → Prop
  | .L a, it, i, h => h.IsListIter it a i
  | .T a, it, i, h => h.IsTupleIter it a i
  | .S x, it, i, h => ∃ t, h.IsStrIter it (strIterType x) x t i
theorem vals_back : ∀ {xs : List V} {us : List Value} {i : Nat} {u : Value}, Vals xs us → us[i]? = some u → ∃ x, xs[i]? = some x ∧ RelV x u
  | _, _, _, _, .nil, e => by simp at e
  | _, _, 0, _, .cons r _, e => by simp at e; subst e; exact ⟨_, rfl, r⟩
  | _, _, i + 1, u, .cons _ t, e => by
    obtain ⟨x, h1, h2⟩ := vals_back (i := i) (u := u) t (by simpa using e)
    exact ⟨x, by simpa using h1, h2⟩
theorem Src.obj {z : Src} {it : Addr} {i : Nat} {h : Heap} (st : z.it it i h) : ∃ o, h.get? it = some o ∧ ∀ v, o.data ≠ .cell v := by
  cases z with
  | L a => obtain ⟨o, e, _, d⟩ := st; exact ⟨o, e, fun v q => by rw [d] at q; cases q⟩
  | T a => obtain ⟨o, e, _, d⟩ := st; exact ⟨o, e, fun v q => by rw [d] at q; cases q⟩
  | S x => obtain ⟨t, o, e, _, d⟩ := st; exact ⟨o, e, fun v q => by rw [d] at q; cases q⟩
theorem Src.keep {z : Src} {it : Addr} {i : Nat} {h h' : Heap} (st : z.it it i h) (k : ∀ o, h.get? it = some o → h'.get? it = some o) : z.it it i h' := by
  cases z with
  | L a => exact Heap.IsListIter.at st k
  | T a => exact Heap.IsTupleIter.at st k
  | S x => obtain ⟨t, o, e, r⟩ := st; exact ⟨t, o, k o e, r⟩
section
variable {X : Cx} {pins : List (Addr × Obj)} {σ : L2.St} {H : Hp} {s : Shared}
theorem Src.draws {z : Src} {xs : List V} {it : Addr} {i : Nat} (hh : X.A.handled = none) (I : L2.Inv X pins σ H s) (q : z.has X.K H xs) (st : z.it it i s.heap) (hn : ∀ a, z.val = .ref a → a ≠ it) :
    ∃ (fp : List Addr) (P : Nat → Value → Prop) (St : Nat → Heap → Prop), Draws X.prog X.w X.A.in1 it (it :: fp) xs.length P St ∧ (∀ b ∈ fp, z.val = .ref b) ∧ St i s.heap ∧ (∀ j h, St j h → z.it it j h) ∧ ∀ j v, P j v → ∃ x, xs[j]? = some x ∧ RelV x v := by
  cases z with
  | L a =>
    obtain ⟨its, rv, p, _⟩ := I.list q
    have e : its.toArray.size = xs.length := by rw [List.size_toArray, rv.length]
    refine ⟨[a], fun i v => its.toArray[i]? = some v, fun i h => h.IsListIter it a i ∧ h.IsList a its.toArray, by rw [← e]; exact Draws.list (A := X.A.in1) hh it a (hn a rfl) its.toArray, fun b hb => by rw [List.mem_singleton.mp hb]; rfl, ⟨st, p.isList⟩, fun j h k => k.1, fun j v hv => vals_back rv (by simpa using hv)⟩
  | T a =>
    obtain ⟨its, rv, p, _⟩ := I.tuple q
    have e : its.toArray.size = xs.length := by rw [List.size_toArray, rv.length]
    refine ⟨[a], fun i v => its.toArray[i]? = some v, fun i h => h.IsTupleIter it a i ∧ h.IsTuple a its.toArray, by rw [← e]; exact Draws.tuple (A := X.A.in1) hh it a (hn a rfl) its.toArray, fun b hb => by rw [List.mem_singleton.mp hb]; rfl, ⟨st, p⟩, fun j h k => k.1, fun j v hv => vals_back rv (by simpa using hv)⟩
  | S x =>
    obtain ⟨t, st⟩ := st
    have q : xs = x.cps.toList.map fun c => V.str ⟨#[c]⟩ := q
    have e : x.cps.size = xs.length := by rw [q]; simp
    refine ⟨[], fun i v => ∃ c u, x.cps[i]? = some c ∧ v = .str ⟨#[c]⟩ u, fun i h => h.IsStrIter it (strIterType x) x t i, by rw [← e]; exact Draws.text (A := X.A.in1) hh it x t, fun b hb => (by cases hb), st, fun j h k => ⟨t, k⟩, fun j v hv => ?_⟩
    obtain ⟨c, u, hc, rfl⟩ := hv
    refine ⟨.str ⟨#[c]⟩, ?_, ⟨u, rfl⟩⟩
    rw [q, List.getElem?_map]
    have : x.cps.toList[j]? = some c := by simpa using hc
    rw [this]; rfl
theorem Src.inj {z : Src} {xs ys : List V} (I : L2.Inv X pins σ H s) (h : z.has X.K H xs) (h' : z.has X.K H ys) : xs = ys := by
  cases z with
  | L a => exact I.list_inj h h'
  | T a => exact I.tuple_inj h h'
  | S x => exact (show xs = _ from h).trans (show ys = _ from h').symm
theorem Src.lt {z : Src} {xs : List V} (I : L2.Inv X pins σ H s) (q : z.has X.K H xs) : ∀ a, z.val = .ref a → a < s.heap.objs.size := by
  intro a ha
  cases z with
  | L b =>
    cases ha
    obtain ⟨its, rv, p, _⟩ := I.list q
    exact p.lt
  | T b =>
    cases ha
    obtain ⟨its, rv, ⟨o, e, _⟩, _⟩ := I.tuple q
    exact Heap.lt_size e
  | S x => cases ha
/-- iter of it -/
theorem Src.begins {z : Src} {xs : List V} {u : Value} (I : L2.Inv X pins σ H s) (q : z.has X.K H xs) (r : RelV z.val u) :
    ∃ (o : Obj) (G : Heap → Prop), Begins u o G ∧ G s.heap ∧ ∀ (h : Heap) (it : Addr), h.get? it = some o → z.it it 0 h := by
  cases z with
  | L a =>
    cases r
    obtain ⟨its, rv, p, _⟩ := I.list q
    exact ⟨_, _, begins_list a its.toArray, p.isList, fun h it e => ⟨_, e, rfl, rfl⟩⟩
  | T a =>
    cases r
    obtain ⟨its, rv, p, _⟩ := I.tuple q
    exact ⟨_, _, begins_tuple a its.toArray, p, fun h it e => ⟨_, e, rfl, rfl⟩⟩
  | S x =>
    obtain ⟨t, rfl⟩ := r
    exact ⟨_, _, begins_text x t, trivial, fun h it e => ⟨t, _, e, rfl, rfl⟩⟩
end
def ItZ (K : PySem.W.Frag) (y z : Src) : It :=
  ⟨fun i H => ∃ (xs ys : List V) (a b : V), y.has K H xs ∧ z.has K H ys ∧ xs[i]? = some a ∧ ys[i]? = some b,
    fun i H v H' => ∃ T a b, v = .ref T ∧ H T = none ∧ H' = upd H T (.tup [a, b]) ∧ (∀ xs, y.has K H xs → xs[i]? = some a) ∧ ∀ ys, z.has K H ys → ys[i]? = some b,
    fun i H => ∃ xs ys : List V, y.has K H xs ∧ z.has K H ys ∧ i ≤ xs.length ∧ i ≤ ys.length ∧ (i = xs.length ∨ i = ys.length)⟩
def ItE (K : PySem.W.Frag) (y : Src) : It :=
  ⟨fun i H => ∃ (xs : List V) (a : V), y.has K H xs ∧ xs[i]? = some a,
    fun i H v H' => ∃ T a, v = .ref T ∧ H T = none ∧ H' = upd H T (.tup [.int (i : Nat), a]) ∧ ∀ xs, y.has K H xs → xs[i]? = some a,
    fun i H => ∃ xs : List V, y.has K H xs ∧ i = xs.length⟩
theorem turn_enumS {P : Program} {w : World} {K : PySem.W.Frag} {elts : List Expr} {kk : Nat} {tpos : Pos} {N : Nat} {y : Src} (ly : ∀ a, y.val = .ref a → a < N) :
    Turn P w K (.Tuple elts kk tpos) (ItE K y) [N + 1, N] (N + 1) (fun i h => (∃ old, IsEnum h (N + 1) N ((i : Nat) : Int) old) ∧ y.it N i h) where
  mem := by simp
  obj := fun i h st b hb => by
    obtain ⟨⟨old, he⟩, h1⟩ := st
    have e' : b = N + 1 ∨ b = N := by simpa using hb
    rcases e' with q | q
    · rw [q]; exact ⟨_, he, fun v q => nomatch q⟩
    · rw [q]; exact Src.obj h1
  keep := fun i h h' st k => by
    obtain ⟨⟨old, he⟩, h1⟩ := st
    exact ⟨⟨old, k _ (by simp) _ he⟩, Src.keep h1 fun o q => k N (by simp) o q⟩
  item := by
    intro X hP hw hK hc i pins s σ H E I hf st hg
    subst hP hw hK
    obtain ⟨⟨old, he⟩, h1⟩ := st
    obtain ⟨xs, a, hqx, ha⟩ := hg
    have hh := I.ok.hd hc
    obtain ⟨fp1, P1, St1, D1, f1, s1, b1, p1⟩ := Src.draws hh I hqx h1 (fun c e => Nat.ne_of_lt (ly c e))
    have hel : N + 1 < s.heap.objs.size := Heap.lt_size he
    have l1 : i < xs.length := (List.getElem?_eq_some_iff.mp ha).1
    have hef : N + 1 ∉ N :: fp1 := fun hm => by
      rcases List.mem_cons.mp hm with e | hm
      · exact Nat.succ_ne_self N e
      · exact absurd (ly _ (f1 _ hm)) (Nat.not_lt.mpr (Nat.le_succ N))
    refine wpAny_pyNext_enum_itemD D1 he s1 l1 (Nat.succ_ne_self N) hef fun u h' tk hu ho st1 hT hsz hk => ?_
    obtain ⟨a', ea, ra⟩ := p1 i u hu
    refine ⟨_, rfl, wpAny_letOwnedTupleGo_enum (s := { s with heap := h', toks := tk + 1 }) ho fun h'' he' sb => ?_⟩
    have hT2 : h''.get? s.heap.objs.size = some { cls := .type "tuple", data := .seq #[.int i tk, u] } := (sb.2 _ (Nat.ne_of_gt (Heap.lt_size he))).trans hT
    have new : ObjOk X.prog X.w (upd H s.heap.objs.size (.tup [.int (i : Nat), a'])) h'' s.heap.objs.size (.tup [.int (i : Nat), a']) :=
      ⟨by show 2 ≤ sizeLine; decide, [.int i tk, u], .cons ⟨_, rfl⟩ (.cons ra .nil), ⟨_, hT2, rfl, _, rfl⟩⟩
    have I1 : L2.Inv X pins σ (upd H s.heap.objs.size (.tup [.int (i : Nat), a'])) { s with heap := h'', toks := tk + 1 } :=
      I.turnedNew (ch := [N + 1, N]) (fun b ob hb q => (sb.2 b (fun z => hb (by simp [z]))).trans (hk b ob (fun z => hb (by simp [z])) (fun z => hb (by simp [z])) q)) hf (Nat.le_refl _) new
    refine ⟨.ref s.heap.objs.size, _, I1, rfl, ⟨_, a', rfl, I.hok.fresh (Nat.le_refl _), rfl, fun ys hy => by rw [Src.inj I hy hqx]; exact ea⟩, ⟨⟨u, ?_⟩, Src.keep (b1 _ _ st1) fun o q => (sb.2 N (Nat.ne_of_lt (Nat.lt_succ_self N))).trans q⟩, fun b hb => ?_⟩
    · have e1 : ((i + 1 : Nat) : Int) = (i : Int) + 1 := by omega
      rw [e1]; exact he'
    · have hb' : b < s.heap.objs.size := by
        have e' : b = N + 1 ∨ b = N := by simpa using hb
        rcases e' with q | q
        · rw [q]; exact hel
        · rw [q]; exact Nat.lt_trans (Nat.lt_succ_self N) hel
      rw [upd_ne (Nat.ne_of_lt hb')]
      exact (hf b hb).1
  done := by
    intro X hP hw hK hc i pins s σ H E I hf st hg
    subst hP hw hK
    obtain ⟨⟨old, he⟩, h1⟩ := st
    obtain ⟨xs, hqx, e⟩ := hg
    have hh := I.ok.hd hc
    obtain ⟨fp1, P1, St1, D1, f1, s1, b1, p1⟩ := Src.draws hh I hqx h1 (fun c e => Nat.ne_of_lt (ly c e))
    obtain ⟨f0, f1', f2, f3, f4, f5⟩ := hf N (by simp)
    exact wpAny_pyNext_enum_endD D1 he (e ▸ s1) fun h' eb => ⟨rfl, I.turned (t' := s.toks) (fun b o hb q => eb b o hb q) f0 f1' f3 f4 f5⟩
  self := fun A i s Q E st h => let ⟨⟨_, he⟩, _⟩ := st; wpAny_pyIter_enum he h
theorem meets_enum1 {v : Value} {o : Obj} {G : Heap → Prop} (B : Begins v o G) :
    Meets (Builtin.«enumerate.__new__» ⟨[.type "enumerate", v], []⟩) (fun _ R s => G s.heap ∧
      R (.ok (.ret (.ref (s.heap.push o).objs.size))) { s with heap := (s.heap.push o).push { cls := .type "enumerate", data := .fields #[.none, .bool false, .ref s.heap.objs.size, rawInt 0, .none, .none] } }) :=
  .of_wp fun prog w A R s h => by
    obtain ⟨hp, g, d, tk, os⟩ := s; obtain ⟨h1, h⟩ := h
    have hsub := sub_enumerate
    have q1 : ∀ {A' : Around} {E : Value → Shared → Prop} {Q : Value → Shared → Prop}, Q (.ref hp.objs.size) ⟨hp.push o, g, d, tk, os⟩ → wpAny (model prog w) A' (pyIter v) Q E ⟨hp, g, d, tk, os⟩ :=
      fun q => B.iter prog w _ _ ⟨hp, g, d, tk, os⟩ _ h1 q
    wp_walk using q1
    refine wpAny_stack_any fun st => wpAny_pure ?_
    split
    · rename_i c _ _ _ _ _
      cases (c == Value.type "enumerate")
      · wp_walk using q1
        exact ⟨_, rfl, h⟩
      · wp_walk using q1
        exact ⟨_, rfl, h⟩
    · wp_walk using q1
      exact ⟨_, rfl, h⟩
theorem enum_begins1 {prog : Program} {w : World} {A : Around} {E : Value → Shared → Prop} {s : Shared} {v : Value} {o : Obj} {G : Heap → Prop} {Q : Value → Shared → Prop} (B : Begins v o G) (h1 : G s.heap)
    (h : ∀ h', IsEnum h' (s.heap.objs.size + 1) s.heap.objs.size 0 .none → h'.get? s.heap.objs.size = some o → h'.objs.size = s.heap.objs.size + 2 →
      (∀ b o, s.heap.get? b = some o → h'.get? b = some o) → Q (.ref (s.heap.objs.size + 1)) { s with heap := h' }) :
    wpAny (model prog w) A (call (.type "enumerate") [v]) Q E s := by
  refine callType_new F.called_enumerate (by decide) (F.typeCall_enumerate_1 _) (F.newCall_enumerate_1 _) (fun obj => F.args_object_init_2 obj _) F.entry_enumerate_new (meets_enum1 B) ⟨h1, ?_⟩
  have hz : (s.heap.push o).objs.size = s.heap.objs.size + 1 := Heap.size_push ..
  show _ ∧ _
  rw [hz]
  have he : IsEnum ((s.heap.push o).push { cls := .type "enumerate", data := .fields #[.none, .bool false, .ref s.heap.objs.size, rawInt 0, .none, .none] }) (s.heap.objs.size + 1) s.heap.objs.size 0 .none := by
    have := Heap.get?_push_size (s.heap.push o) (o := { cls := .type "enumerate", data := .fields #[.none, .bool false, .ref s.heap.objs.size, rawInt 0, .none, .none] }) rfl
    rw [hz] at this; exact this
  exact ⟨⟨_, he, rfl⟩, h _ he (Heap.get?_push_of_some _ (Heap.get?_push_size _ B.free)) (by rw [Heap.size_push, hz]) fun b o x => Heap.get?_push_of_some _ (Heap.get?_push_of_some _ x)⟩
/-- enumerate(e) -/
def iEnumS (K : PySem.W.Frag) (ta : TA) : TI := fun σ H R => ta σ H fun vs H1 => ∃ (y : Src) (xs : List V), vs = [y.val] ∧ y.has K H1 xs ∧ R (ItE K y) H1
theorem pi_enumS {X : Cx} {e : Expr} {ta : TA} {p pos tpos : Pos} {elts : List Expr} {kk : Nat} (hg : Gl X "enumerate") (hm : X.mg "enumerate" = none) (ha : PA X [e] ta) (hs : starEach [e] X.env = [(false, eval e X.env)] := by rfl) :
    PI X (.Tuple elts kk tpos) (.Call (.Name "enumerate" p) [e] [] pos) (iEnumS X.K ta) := by
  refine ⟨fun pins s σ H R I h => ?_⟩
  refine Call_ (ld_blt I hg hm boot_enumerate (PyProof.Rows.callWith_type1 (thn (ha.run pos pins s σ H _ I h) fun us s1 ⟨vs, H1, I1, r1, q1⟩ => ?_) hs rfl))
  obtain ⟨y, xs, ex, hq, q⟩ := q1
  subst ex
  cases r1 with
  | cons r rr =>
    cases rr
    obtain ⟨o1, G1, B1, g1, k1⟩ := Src.begins I1 hq r
    refine enum_begins1 B1 g1 fun h' he c1 hsz hk => wpAny_pyIter_enum he ?_
    have I2 : L2.Inv X pins σ H1 { s1 with heap := h' } := I1.kept (t' := s1.toks) hk
    refine ⟨s1.heap.objs.size + 1, [s1.heap.objs.size + 1, s1.heap.objs.size], _, _, H1, rfl, I2, turn_enumS (Src.lt I1 hq), ⟨⟨.none, he⟩, k1 _ _ c1⟩, fun b hb => ?_, q⟩
    have e' : b = s1.heap.objs.size + 1 ∨ b = s1.heap.objs.size := by simpa using hb
    have hle : s1.heap.objs.size ≤ b := by rcases e' with q | q <;> rw [q] <;> omega
    exact I1.fpOk hle (I1.hok.fresh hle)
theorem walk_enumS {K : PySem.W.Frag} {y : Src} {xs : List V} : Walk (ItE K y) xs.length (fun H => y.has K H xs) (YPair (fun i => some (.int (i : Nat))) (fun i => xs[i]?)) := by
  refine ⟨fun i _ hi q => ⟨xs, xs[i], q, by simp [hi]⟩, fun _ q => ⟨xs, q, rfl⟩, fun i H v H' _ q y => ?_⟩
  obtain ⟨T, x, h1, h2, h3, h4⟩ := y
  exact ⟨T, .int (i : Nat), x, h1, h2, h3, rfl, h4 xs q⟩
end L3
namespace L3
open PySem PySem.Spec PyProof.Rows L2
section
variable {M : Model} {prog : Program} {w : World} {A : Around} {E : Value → Shared → Prop} {s : Shared} {K : PySem.W.Frag} {x C f : Addr} {ox : Obj} {od : Option Obj} {b tb : Value}
theorem ne_entry {Q : PySem.Fin → Shared → Prop} (hu : A.units < cLine) (X : K.In s.heap) (I : PySem.W.InstAt s.heap x ox C od) (hs : PySem.W.findIn K (.ref C) "__eq__" = some (some (.ref f))) (hf : PySem.W.isFn K (.ref f) = true)
    (hcall : wpAny (model prog w) A (call (.ref f) [.ref x, b]) (fun v s' => ∃ z, v = .bool z ∧ Q (.done (.ret (.bool (!z)))) s') E s) :
    wpAny (model prog w) A (Builtin.«object.__ne__» ⟨[.ref x, b], []⟩) Q E s := by
  unfold Builtin.«object.__ne__»
  repeat (first
    | with_reducible refine wpAny_cRoomFor hu ?_
    | (refine wpAny_bind (m := callSpecialIfBound? (.ref x) (Str.ofString "__eq__") [b])
        (PySem.W.ifBound_K X I hs hf (wpAny_mono hcall (fun r s' hr => by
          obtain ⟨b, rfl, hq⟩ := hr
          repeat (first | exact hq | exact wpAny_pure hq | exact wpAny_truthy_bool hq | (refine wpAny_bind (m := truthy (.bool _)) (wpAny_truthy_bool ?_)) | wp_step)) fun _ _ e => e)))
    | wp_step)
theorem ifBound_ne {args : List Value} {Q : Option Value → Shared → Prop} (X : K.In s.heap) (I : PySem.W.InstAt s.heap x ox C od) (hs : PySem.W.findIn K (.ref C) "__ne__" = some (some (.builtin "object.__ne__")))
    (h : wpAny M A (call (.builtin "object.__ne__") (.ref x :: args)) (fun v => Q (some v)) E s) : wpAny M A (callSpecialIfBound? (.ref x) "__ne__" args) Q E s := by
  simp only [callSpecialIfBound?, bindSpecialIfBound?]
  refine wpAny_holding (wpAny_bind (wpAny_bind (wpAny_bind (I.type.here ((PySem.W.looks_findIn X hs).here ?_)))))
  refine wpAny_bind (wpAny_askSetting (wpAny_ite ?_))
  have fin : wpAny M A (call (.builtin "object.__ne__") ([.ref x] ++ args) >>= fun v => pure (some v)) Q E s := wpAny_bind (wpAny_mono h (fun v s' h' => wpAny_pure h') fun _ _ h' => h')
  split
  · exact wpAny_bind (wpAny_of_eq (F.cmp_object.ne.bind _) (wpAny_pure (by exact fin)))
  · exact wpAny_tryCatch (wpAny_bind (wpAny_of_eq (F.cmp_object.ne.bind _) (wpAny_pure (by exact fin))))
theorem rc_ne {Q : Value → Shared → Prop} (hu : A.units + 1 < cLine) (X : K.In s.heap) (I : PySem.W.InstAt s.heap x ox C od) (hb : PySem.W.Looks (model prog w) s.heap (typeOf b) tb) (hn : PySem.W.notFirst K C tb = true)
    (hm : PySem.W.mroIn K C (.type "object") = some true) (hne : PySem.W.findIn K (.ref C) "__ne__" = some (some (.builtin "object.__ne__"))) (hs : PySem.W.findIn K (.ref C) "__eq__" = some (some (.ref f))) (hf : PySem.W.isFn K (.ref f) = true)
    (h : wpAny (model prog w) A.in1 (call (.ref f) [.ref x, b]) (fun v s' => ∃ z, v = .bool z ∧ Q (.bool (!z)) s') E s) : wpAny (model prog w) A (richCompare .NotEq (.ref x) b) Q E s := by
  have one : wpAny (model prog w) A (tryCompare (.ref x) "__ne__" b) (fun r s' => ∃ v, r = some v ∧ Q v s') E s := by
    unfold tryCompare
    refine wpAny_bind (ifBound_ne X I hne (wpAny_call (codeAny_call_builtin F.cmp_object.ne.plain F.cmpEntry_ne (PySem.W.check_slot F.cmpKind_ne F.cmpSplit_ne (I.type.andThen (PySem.W.looks_mroIn X hm)) (F.cmpArgs_ne _ _)
      (ne_entry (A := A.in1) hu X I hs hf (wpAny_mono h (fun v s' hv => ?_) fun _ _ e => e))))))
    obtain ⟨z, rfl, hq⟩ := hv
    first | exact ⟨z, rfl, wpAny_pure ⟨_, rfl, hq⟩⟩ | exact ⟨z, rfl, wpAny_pure (wpAny_pure ⟨_, rfl, hq⟩)⟩ | exact ⟨z, rfl, ⟨_, rfl, hq⟩⟩
  unfold richCompare
  simp only [oneThing_ref]
  refine wpAny_holding (wpAny_bind (wpAny_cRoomFor (Nat.lt_of_succ_lt hu) ?_))
  refine wpAny_bind (I.type.here (wpAny_bind (hb.here ?_)))
  rw [cmpInfo_NotEq]
  dsimp only
  split
  · rename_i q
    have e : PySem.W.subIn K tb (.ref C) = some false := by
      rcases Bool.or_eq_true_iff.mp hn with e | e
      · rw [beq_iff_eq.mp e] at q; simp at q
      · exact beq_iff_eq.mp e
    refine wpAny_bind ((PySem.W.looks_subIn X e).here ?_)
    simp only [Bool.false_eq_true, if_false]
    refine wpAny_bind (wpAny_mono one (fun r s' z => ?_) fun _ _ e => e)
    obtain ⟨v, rfl, hq⟩ := z
    exact wpAny_pure hq
  · refine wpAny_bind (wpAny_pure ?_)
    simp only [Bool.false_eq_true, if_false]
    refine wpAny_bind (wpAny_mono one (fun r s' z => ?_) fun _ _ e => e)
    obtain ⟨v, rfl, hq⟩ := z
    exact wpAny_pure hq
end
section
variable {X : Cx} {C f : Addr} {fd : FuncData} {k : Nat} {sp : Sp} {y : Str}
theorem looks_of {pins : List (Addr × Obj)} {σ : L2.St} {H : Hp} {s : Shared} {x : V} {u t : Value} (I : L2.Inv X pins σ H s) (rx : RelV x u) (ty : TyX X.K H x t) : PySem.W.Looks (model X.prog X.w) s.heap (typeOf u) t := by
  obtain ⟨P, Z, p, _⟩ := kit_of I rx ty
  exact Z.ty _ _ I.kIn p
/-- o != x -/
theorem op_neOwn (F : FnOkG X.prog X.w X.K X.mg X.base CX0 k f fd ["self", y] sp) (hr : Room (k + 1) X.A) (hG : X.A.guards = some []) (hb : L2.Binds X.K fd ["self", y] []) (m : Meth X.K C "__eq__" f)
    (hm : PySem.W.mroIn X.K C (.type "object") = some true) (hne : PySem.W.findIn X.K (.ref C) "__ne__" = some (some (.builtin "object.__ne__"))) :
    OpR X (compareOp .NotEq) (fun o x H Q => ∃ a dx fs t, o = .ref a ∧ H a = some (.ins C dx fs) ∧ TyX X.K H x t ∧ PySem.W.notFirst X.K C t = true ∧ sp [.ref a, x] H (fun v H' => ∃ b : Bool, v = .bl b ∧ Q (.bl (!b)) H') E0) := by
  intro pins s σ H o x v u Q I ro rx h
  obtain ⟨a, dx, fs, t, rfl, ha, ty, hn, h⟩ := h
  cases ro
  obtain ⟨mA, O, _⟩ := ins_get I.hok ha
  obtain ⟨od, J, _⟩ := O.look
  show wpAny (model X.prog X.w) X.A (richCompare .NotEq (.ref a) u) _ _ s
  have hu := hr.units
  refine rc_ne (by omega) I.kIn J (looks_of I rx ty) hn hm hne m.at_ m.fn ?_
  refine run_own (vs := [.ref a, x]) (us := [.ref a, u]) F hr hG hb I (.cons rfl (.cons rx .nil)) h fun w s' hq => ?_
  obtain ⟨v, H', I', rv, b, rfl, q⟩ := hq
  cases rv
  exact ⟨b, rfl, .bl (!b), H', I', rfl, q⟩
end
end L3
namespace L3
open PySem PySem.Spec PyProof.Rows L2
/-- numbers as values -/
def nV (l : List Nat) : List V := l.map fun (n : Nat) => V.int (n : Int)
theorem nV_len (l : List Nat) : (nV l).length = l.length := by unfold nV; rw [List.length_map]
theorem nV_get {l : List Nat} {i n : Nat} (h : l[i]? = some n) : (nV l)[i]? = some (V.int (n : Int)) := by unfold nV; rw [List.getElem?_map, h]; rfl
theorem nV_inv {l : List Nat} {i : Nat} {v : V} (h : (nV l)[i]? = some v) : ∃ n, l[i]? = some n ∧ v = V.int (n : Int) := by
  unfold nV at h
  rw [List.getElem?_map] at h
  obtain ⟨n, h1, h2⟩ := Option.map_eq_some_iff.mp h
  exact ⟨n, h1, h2.symm⟩
theorem nV_flat (l : List Nat) : (nV l).all flatV = true := by
  rw [List.all_eq_true]
  intro x hx
  obtain ⟨n, _, rfl⟩ := List.mem_map.mp hx
  rfl
theorem eqV_int (a b : Nat) : eqV (.int (a : Int)) (.int (b : Int)) = decide (a = b) := by
  show ((a : Int) == (b : Int)) = _
  by_cases h : a = b
  · subst h; simp
  · rw [decide_eq_false h]; exact beq_eq_false_iff_ne.mpr (by omega)
theorem nV_in (n : Nat) (l : List Nat) : inV (.int (n : Int)) (nV l) = decide (n ∈ l) := by
  unfold inV nV
  rw [List.any_map]
  by_cases h : n ∈ l
  · rw [decide_eq_true h, List.any_eq_true]
    exact ⟨n, h, by show eqV (.int (n : Int)) (.int (n : Int)) = true; rw [eqV_int]; exact decide_eq_true rfl⟩
  · rw [decide_eq_false h, List.any_eq_false]
    intro x hx e
    have e : eqV (.int (x : Int)) (.int (n : Int)) = true := e
    rw [eqV_int] at e
    exact h (of_decide_eq_true e ▸ hx)
theorem idx_first : ∀ {l : List Nat} {n m k : Nat}, m < l.idxOf n → l[m]? = some k → k ≠ n
  | [], n, m, k, hm, h => by simp at h
  | a :: l, n, m, k, hm, h => by
    rw [List.idxOf_cons] at hm
    by_cases e : a = n
    · subst e; simp at hm
    · have e' : (a == n) = false := by simpa using e
      rw [e'] at hm
      simp only [cond_false] at hm
      cases m with
      | zero => simp at h; subst h; exact e
      | succ m => exact idx_first (l := l) (m := m) (by omega) (by simpa using h)
mutual
theorem Dp.same {K : PySem.W.Frag} {H H' : Hp} (s : Same H H') : ∀ {v : V} {d : PyData}, Dp K H v d → Dp K H' v d
  | _, _, .non => .non
  | _, _, .bl b => .bl b
  | _, _, .int i => .int i
  | _, _, .str x => .str x
  | _, _, .lst h a => .lst (sq_same h s) (DpAll.same s a)
  | _, _, .tup h a => .tup (h.elim (fun h => .inl (h.elim (fun h => .inl (s _ _ h)) fun ⟨o, h⟩ => .inr ⟨o, s _ _ h⟩)) fun h => .inr h) (DpAll.same s a)
theorem DpAll.same {K : PySem.W.Frag} {H H' : Hp} (s : Same H H') : ∀ {vs : List V} {ds : List PyData}, DpAll K H vs ds → DpAll K H' vs ds
  | _, _, .nil => .nil
  | _, _, .cons a b => .cons (Dp.same s a) (DpAll.same s b)
end
theorem sqT_same {K : PySem.W.Frag} {a : Addr} {xs : List V} {H H' : Hp} (h : SqT K H a xs) (s : Same H H') : SqT K H' a xs :=
  h.elim (fun h => .inl (h.elim (fun h => .inl (s _ _ h)) fun ⟨o, h⟩ => .inr ⟨o, s _ _ h⟩)) fun h => .inr h
section
variable {K : PySem.W.Frag} {H : Hp}
theorem dp_list {v : V} {ds : List PyData} (h : Dp K H v (.list ds)) : ∃ a xs, v = .ref a ∧ SqL K H a xs ∧ DpAll K H xs ds := by
  cases h with
  | lst h a => exact ⟨_, _, rfl, h, a⟩
theorem dp_tuple {v : V} {ds : List PyData} (h : Dp K H v (.tuple ds)) : ∃ a xs, v = .ref a ∧ SqT K H a xs ∧ DpAll K H xs ds := by
  cases h with
  | tup h a => exact ⟨_, _, rfl, h, a⟩
theorem dp_int {v : V} {n : Int} (h : Dp K H v (.int n)) : v = .int n := by cases h; rfl
theorem dpAll_len : ∀ {xs : List V} {ds : List PyData}, DpAll K H xs ds → xs.length = ds.length
  | _, _, .nil => rfl
  | _, _, .cons _ t => by rw [List.length_cons, List.length_cons, dpAll_len t]
theorem dpAll_get : ∀ {xs : List V} {ds : List PyData} {i : Nat} {d : PyData}, DpAll K H xs ds → ds[i]? = some d → ∃ x, xs[i]? = some x ∧ Dp K H x d
  | _, _, _, _, .nil, e => by simp at e
  | _, _, 0, _, .cons h _, e => by simp at e; subst e; exact ⟨_, rfl, h⟩
  | _, _, i + 1, d, .cons _ t, e => by
    obtain ⟨x, h1, h2⟩ := dpAll_get (i := i) (d := d) t (by simpa using e)
    exact ⟨x, by simpa using h1, h2⟩
theorem dpAll_back : ∀ {xs : List V} {ds : List PyData} {i : Nat} {x : V}, DpAll K H xs ds → xs[i]? = some x → ∃ d, ds[i]? = some d ∧ Dp K H x d
  | _, _, _, _, .nil, e => by simp at e
  | _, _, 0, _, .cons h _, e => by simp at e; subst e; exact ⟨_, rfl, h⟩
  | _, _, i + 1, x, .cons _ t, e => by
    obtain ⟨d, h1, h2⟩ := dpAll_back (i := i) (x := x) t (by simpa using e)
    exact ⟨d, by simpa using h1, h2⟩
theorem dpAll_app : ∀ {xs ys : List V} {ds es : List PyData}, DpAll K H xs ds → DpAll K H ys es → DpAll K H (xs ++ ys) (ds ++ es)
  | _, _, _, _, .nil, b => b
  | _, _, _, _, .cons h t, b => .cons h (dpAll_app t b)
/-- by places -/
theorem dpAll_of : ∀ {xs : List V} {ds : List PyData}, xs.length = ds.length → (∀ (i : Nat) (x : V) (d : PyData), xs[i]? = some x → ds[i]? = some d → Dp K H x d) → DpAll K H xs ds
  | [], [], _, _ => .nil
  | x :: xs, d :: ds, hl, h => .cons (h 0 x d rfl rfl) (dpAll_of (by simpa using hl) fun i x' d' h1 h2 => h (i + 1) x' d' (by simpa using h1) (by simpa using h2))
def dN (l : List Nat) : List PyData := l.map fun (n : Nat) => PyData.int (n : Int)
def dB (l : List Bool) : List PyData := l.map PyData.bool
theorem dpAll_nV : ∀ l : List Nat, DpAll K H (nV l) (dN l)
  | [] => .nil
  | n :: l => .cons (.int _) (dpAll_nV l)
theorem dpAll_nats : ∀ {l : List Nat} {xs : List V}, DpAll K H xs (dN l) → xs = nV l
  | [], _, .nil => rfl
  | n :: l, _, .cons h t => by rw [dp_int h, dpAll_nats t]; rfl
end
/-- a list or a tuple with these items -/
def Sq (K : PySem.W.Frag) (H : Hp) (v : V) (xs : List V) : Prop := ∃ a, v = .ref a ∧ (SqL K H a xs ∨ SqT K H a xs)
theorem Sq.same {K : PySem.W.Frag} {H H' : Hp} {v : V} {xs : List V} (h : Sq K H v xs) (s : Same H H') : Sq K H' v xs := by
  obtain ⟨a, e, h⟩ := h
  exact ⟨a, e, h.elim (fun h => .inl (sq_same h s)) fun h => .inr (sqT_same h s)⟩
theorem sq_list {K : PySem.W.Frag} {H : Hp} {a : Addr} {xs : List V} (h : SqL K H a xs) : Sq K H (.ref a) xs := ⟨a, rfl, .inl h⟩
theorem sq_tuple {K : PySem.W.Frag} {H : Hp} {a : Addr} {xs : List V} (h : SqT K H a xs) : Sq K H (.ref a) xs := ⟨a, rfl, .inr h⟩
/-- the iterator of a list or a tuple -/
def iSq (K : PySem.W.Frag) (tl : TE) : TI := fun σ H R => tl σ H fun x H1 => ∃ xs H0, Sq K H0 x xs ∧ Same H0 H1 ∧ ∀ J G, Walk J xs.length G (YAt xs) → (∀ H', Same H0 H' → G H') → R J H1
theorem pi_sq {X : Cx} {tg l : Expr} {tl : TE} (hl : PE X l tl) : PI X tg l (iSq X.K tl) := by
  refine ⟨fun pins s σ H R I h => ?_⟩
  refine thn (hl.run pins s σ H _ I h) fun v s1 ⟨x, H1, I1, r1, q1⟩ => ?_
  obtain ⟨xs, H0, ⟨a, e, hq⟩, sm, q⟩ := q1
  subst e
  cases r1
  have fresh : ∀ b, b ∈ [s1.heap.objs.size] → FpOk X pins H1 b := fun b hb => by
    have e : b = s1.heap.objs.size := by simpa using hb
    subst e
    exact I1.fpOk (Nat.le_refl _) (I1.hok.fresh (Nat.le_refl _))
  rcases hq with hq | hq
  · obtain ⟨its, rv, p, hz⟩ := I1.list (sq_same hq sm)
    refine wpAny_pyIter_list p.isList ?_
    exact ⟨s1.heap.objs.size, [s1.heap.objs.size], _, _, H1, rfl, I1.kept (t' := s1.toks) fun b o e => Heap.get?_push_of_some _ e, turn_list a _, ⟨_, Heap.get?_push_size _ rfl, rfl, rfl⟩, fresh, q _ _ walk_list fun H' s' => sq_same hq s'⟩
  · obtain ⟨its, rv, p, hz⟩ := I1.tuple (sqT_same hq sm)
    refine wpAny_pyIter_tuple p ?_
    exact ⟨s1.heap.objs.size, [s1.heap.objs.size], _, _, H1, rfl, I1.kept (t' := s1.toks) fun b o e => Heap.get?_push_of_some _ e, turn_tuple a _, ⟨_, Heap.get?_push_size _ rfl, rfl, rfl⟩, fresh, q _ _ walk_tup fun H' s' => sqT_same hq s'⟩
/-- as what zip or enumerate walks -/
theorem sq_src {K : PySem.W.Frag} {H : Hp} {v : V} {xs : List V} (h : Sq K H v xs) : ∃ y : Src, v = y.val ∧ ∀ H', Same H H' → y.has K H' xs := by
  obtain ⟨a, rfl, h | h⟩ := h
  · exact ⟨.L a, rfl, fun H' s => sq_same h s⟩
  · exact ⟨.T a, rfl, fun H' s => sqT_same h s⟩
section
variable {X : Cx}
/-- x[i] of either -/
theorem ix_sq : IxR X (fun x y H Q => ∃ xs i v, Sq X.K H x xs ∧ y = .int i ∧ atI xs i = some v ∧ Q v H) := by
  intro value slice pins s σ H x y v u Q I rx ry h hs
  obtain ⟨xs, i, w, ⟨a, rfl, h⟩, rfl, hat, q⟩ := h
  rcases h with h | h
  · exact ix_list value slice pins s σ H _ _ v u Q I rx ry ⟨a, xs, i, w, rfl, rfl, h, hat, q⟩ hs
  · exact ix_tup value slice pins s σ H _ _ v u Q I rx ry ⟨a, xs, i, w, rfl, rfl, h, hat, q⟩ hs
/-- text.index(letter) -/
theorem mt_indexT : MtR X "str.index" (fun x xs H Q => ∃ (l : List Nat) (c : Nat), x = tx l ∧ xs = [tx [c]] ∧ c ∈ l ∧ Q (.int ((l.idxOf c : Nat) : Int)) H) := by
  intro pins s σ H x xs v us Q I rx r h
  obtain ⟨l, c, rfl, rfl, hc, q⟩ := h
  rcases StrLaws.occ_head (tS l) (tS [c]) 1 (Nat.le_refl 1) with ⟨_, hn⟩ | ⟨i, rest, ho, hat, hn⟩
  · obtain ⟨j, hj⟩ := List.mem_iff_getElem?.mp hc
    exact absurd ((StrLaws.subAt_one (tS l) c j).mpr (by simpa [tS] using hj)) (hn j)
  · refine mt_sindex pins s σ H _ _ v us Q I rx r ⟨_, _, i, rest, rfl, rfl, ho, ?_⟩
    have h1 : l[i]? = some c := by
      have := (StrLaws.subAt_one (tS l) c i).mp hat
      simpa [tS] using this
    have h2 : ∀ m, m < i → l[m]? ≠ some c := fun m hm z => hn m hm ((StrLaws.subAt_one (tS l) c m).mpr (by simpa [tS] using z))
    have e : l.idxOf c = i := by
      obtain ⟨hi, e1⟩ := List.getElem?_eq_some_iff.mp h1
      have h3 : l.idxOf c < l.length := List.idxOf_lt_length_of_mem hc
      have h4 : l[l.idxOf c] = c := List.getElem_idxOf h3
      rcases Nat.lt_trichotomy (l.idxOf c) i with z | z | z
      · exact absurd (by rw [List.getElem?_eq_getElem h3, h4]) (h2 _ z)
      · exact z
      · exact absurd rfl (idx_first z h1)
    rw [← e] at *
    exact q
/-- numbers.index(n) -/
theorem mt_indexN : MtR X "list.index" (fun x xs H Q => ∃ (a : Addr) (l : List Nat) (n : Nat), x = .ref a ∧ xs = [.int (n : Int)] ∧ SqL X.K H a (nV l) ∧ n ∈ l ∧ Q (.int ((l.idxOf n : Nat) : Int)) H) := by
  intro pins s σ H x xs v us Q I rx r h
  obtain ⟨a, l, n, rfl, rfl, hS, hn, q⟩ := h
  have h3 : l.idxOf n < l.length := List.idxOf_lt_length_of_mem hn
  refine mt_index pins s σ H _ _ v us Q I rx r ⟨a, nV l, .int (n : Int), l.idxOf n, .int (n : Int), rfl, rfl, hS, rfl, nV_flat l, nV_get ?_, ?_, fun m z hm hz => ?_, q⟩
  · rw [List.getElem?_eq_getElem h3, List.getElem_idxOf h3]
  · rw [eqV_int]; exact decide_eq_true rfl
  · obtain ⟨k, hk, rfl⟩ := nV_inv hz
    rw [eqV_int]
    exact decide_eq_false (idx_first hm hk)
/-- n in numbers -/
theorem op_inN : OpR X (compareOp .In) (fun x y H Q => ∃ (l : List Nat) (n : Nat), x = .int (n : Int) ∧ Sq X.K H y (nV l) ∧ Q (.bl (decide (n ∈ l))) H) := by
  intro pins s σ H x y v u Q I rx ry h
  obtain ⟨l, n, rfl, ⟨a, rfl, hS⟩, q⟩ := h
  exact op_in_seq pins s σ H _ _ v u Q I rx ry ⟨a, nV l, rfl, hS, rfl, nV_flat l, by rw [nV_in]; exact q⟩
theorem op_notInN : OpR X (compareOp .NotIn) (fun x y H Q => ∃ (l : List Nat) (n : Nat), x = .int (n : Int) ∧ Sq X.K H y (nV l) ∧ Q (.bl (!decide (n ∈ l))) H) := by
  intro pins s σ H x y v u Q I rx ry h
  obtain ⟨l, n, rfl, ⟨a, rfl, hS⟩, q⟩ := h
  exact op_notIn_seq pins s σ H _ _ v u Q I rx ry ⟨a, nV l, rfl, hS, rfl, nV_flat l, by rw [nV_in]; exact q⟩
end
structure Wt (d : PyData) (w k : Nat) : Prop where
  s : d.showable = true
  l : d.leavesShort 10 = true
  c : d.canLay0 = true
  w : d.weight ≤ w
  p : d.depth ≤ k
theorem Wt.shw {d : PyData} {w k : Nat} (h : Wt d w k) (hw : w ≤ 1048576) (hk : k ≤ 50) : Shw d :=
  ⟨h.s, PyData.shown_fits (B := 10) (by decide) (by decide) h.l (Nat.le_trans h.w (Nat.le_trans hw (by decide))), Nat.le_trans h.p hk⟩
theorem Wt.shaped {d : PyData} {w k : Nat} (h : Wt d w k) (hk : k ≤ 64) : SeqAt.shaped d = true := by
  show (d.canLay0 && decide (d.depth ≤ 64)) = true
  rw [h.c, decide_eq_true (Nat.le_trans h.p hk)]
  rfl
theorem Wt.mono {d : PyData} {w k w' k' : Nat} (h : Wt d w k) (hw : w ≤ w') (hk : k ≤ k') : Wt d w' k' := ⟨h.s, h.l, h.c, Nat.le_trans h.w hw, Nat.le_trans h.p hk⟩
theorem wt_all {w k : Nat} : ∀ {ds : List PyData}, (∀ d ∈ ds, Wt d w k) → PyData.showableAll ds = true ∧ PyData.leavesShortAll 10 ds = true ∧ PyData.canLayAll0 ds = true ∧ PyData.weightAll ds ≤ (w + 1) * ds.length ∧ PyData.depthAll ds ≤ k
  | [], _ => ⟨rfl, rfl, rfl, Nat.zero_le _, Nat.zero_le _⟩
  | d :: ds, h => by
    have h1 := h d List.mem_cons_self
    obtain ⟨a, b, c, e, f⟩ := wt_all (ds := ds) fun x hx => h x (List.mem_cons_of_mem _ hx)
    refine ⟨?_, ?_, ?_, ?_, ?_⟩
    · show (PyData.showable d && PyData.showableAll ds) = true
      rw [h1.s, a]; rfl
    · show (PyData.leavesShort 10 d && PyData.leavesShortAll 10 ds) = true
      rw [h1.l, b]; rfl
    · show (PyData.canLay0 d && PyData.canLayAll0 ds) = true
      rw [h1.c, c]; rfl
    · show PyData.weight d + 1 + PyData.weightAll ds ≤ _
      have := h1.w
      rw [List.length_cons, Nat.mul_succ]
      omega
    · show max (PyData.depth d) (PyData.depthAll ds) ≤ k
      exact Nat.max_le.mpr ⟨h1.p, f⟩
theorem Wt.list {w k n : Nat} {ds : List PyData} (h : ∀ d ∈ ds, Wt d w k) (hn : ds.length ≤ n) : Wt (.list ds) ((w + 1) * n) (k + 1) := by
  obtain ⟨a, b, c, e, f⟩ := wt_all h
  have hm : (w + 1) * ds.length ≤ (w + 1) * n := Nat.mul_le_mul_left _ hn
  exact ⟨by simpa only [PyData.showable] using a, by simpa only [PyData.leavesShort] using b, by simpa only [PyData.canLay0] using c, by simp only [PyData.weight]; omega, by simp only [PyData.depth]; omega⟩
theorem Wt.tuple {w k n : Nat} {ds : List PyData} (h : ∀ d ∈ ds, Wt d w k) (hn : ds.length ≤ n) : Wt (.tuple ds) ((w + 1) * n) (k + 1) := by
  obtain ⟨a, b, c, e, f⟩ := wt_all h
  have hm : (w + 1) * ds.length ≤ (w + 1) * n := Nat.mul_le_mul_left _ hn
  exact ⟨by simpa only [PyData.showable] using a, by simpa only [PyData.leavesShort] using b, by simpa only [PyData.canLay0] using c, by simp only [PyData.weight]; omega, by simp only [PyData.depth]; omega⟩
theorem Wt.non : Wt .none 0 0 := ⟨rfl, rfl, rfl, by simp [PyData.weight], by simp [PyData.depth]⟩
theorem Wt.bool (b : Bool) : Wt (.bool b) 0 0 := ⟨rfl, rfl, rfl, by simp [PyData.weight], by simp [PyData.depth]⟩
theorem Wt.int {n : Int} (h : n.natAbs < 1000000000) : Wt (.int n) 30 0 := by
  have hlog : n.natAbs.log2 < 30 := by
    by_cases e : n.natAbs = 0
    · rw [e]; decide
    · exact (Nat.log2_lt e).mpr (Nat.lt_trans h (by decide))
  refine ⟨?_, ?_, rfl, ?_, by simp [PyData.depth]⟩
  · simp only [PyData.showable, decide_eq_true_eq]; omega
  · simp only [PyData.leavesShort, decide_eq_true_eq]
    have e := int_text_length_le10 (a := n) (k := 9) (by decide) h
    simp only [PyData.shown]
    rw [PySem.ofString_length]
    omega
  · simp only [PyData.weight]; split <;> omega
theorem Wt.nat {n : Nat} (h : n < 1000000000) : Wt (.int (n : Int)) 30 0 := Wt.int (by omega)
theorem Wt.text {l : List Nat} {n : Nat} (h : ∀ c ∈ l, c < 1114112) (hn : l.length ≤ n) : Wt (.str (tS l)) n 0 := by
  refine ⟨rfl, ?_, ?_, by simpa [PyData.weight, tS] using hn, by simp [PyData.depth]⟩
  · simp only [PyData.leavesShort, List.all_eq_true, decide_eq_true_eq]
    intro c hc
    have := h c (by simpa [tS] using hc)
    have e : 16 ^ 8 = 4294967296 := by decide
    omega
  · show PyData.strOk (tS l) = true
    unfold PyData.strOk
    rw [Array.all_eq_true_iff_forall_mem]
    intro c hc
    exact decide_eq_true (h c (by simpa [tS] using hc))
theorem Wt.nats {l : List Nat} {n : Nat} (h : ∀ c ∈ l, c < 1000000000) (hn : l.length ≤ n) : Wt (.list (dN l)) (31 * n) 1 := by
  refine Wt.list (w := 30) (k := 0) (fun d hd => ?_) (by unfold dN; rw [List.length_map]; exact hn)
  obtain ⟨c, hc, rfl⟩ := List.mem_map.mp hd
  exact Wt.nat (h c hc)
theorem Wt.natsT {l : List Nat} {n : Nat} (h : ∀ c ∈ l, c < 1000000000) (hn : l.length ≤ n) : Wt (.tuple (dN l)) (31 * n) 1 := by
  refine Wt.tuple (w := 30) (k := 0) (fun d hd => ?_) (by unfold dN; rw [List.length_map]; exact hn)
  obtain ⟨c, hc, rfl⟩ := List.mem_map.mp hd
  exact Wt.nat (h c hc)
theorem Wt.bools {l : List Bool} {n : Nat} (hn : l.length ≤ n) : Wt (.list (dB l)) n 1 := by
  have := Wt.list (w := 0) (k := 0) (n := n) (ds := dB l) (fun d hd => ?_) (by unfold dB; rw [List.length_map]; exact hn)
  · exact this.mono (by omega) (Nat.le_refl _)
  · obtain ⟨c, hc, rfl⟩ := List.mem_map.mp hd
    exact Wt.bool c
theorem Wt.boolsT {l : List Bool} {n : Nat} (hn : l.length ≤ n) : Wt (.tuple (dB l)) n 1 := by
  have := Wt.tuple (w := 0) (k := 0) (n := n) (ds := dB l) (fun d hd => ?_) (by unfold dB; rw [List.length_map]; exact hn)
  · exact this.mono (by omega) (Nat.le_refl _)
  · obtain ⟨c, hc, rfl⟩ := List.mem_map.mp hd
    exact Wt.bool c
theorem eqv_map {α : Type} [DecidableEq α] (f : α → PyData) (hf : ∀ a b, PyData.eqv (f a) (f b) = decide (a = b)) : ∀ l m : List α, PyData.eqvAll (l.map f) (m.map f) = decide (l = m)
  | [], [] => by simp [PyData.eqvAll]
  | [], b :: m => by simp [PyData.eqvAll]
  | a :: l, [] => by simp [PyData.eqvAll]
  | a :: l, b :: m => by
    show (PyData.eqv (f a) (f b) && PyData.eqvAll (l.map f) (m.map f)) = _
    rw [hf, eqv_map f hf l m]
    by_cases h1 : a = b
    · by_cases h2 : l = m
      · subst h1 h2; simp
      · simp [h2]
    · simp [h1]
theorem eqv_dN (l m : List Nat) : PyData.eqvAll (dN l) (dN m) = decide (l = m) := eqv_map _ (fun a b => by
  show ((a : Int) == (b : Int)) = _
  by_cases h : a = b
  · subst h; simp
  · rw [decide_eq_false h]; exact beq_eq_false_iff_ne.mpr (by omega)) l m
theorem eqv_dB (l m : List Bool) : PyData.eqvAll (dB l) (dB m) = decide (l = m) := eqv_map _ (fun a b => by
  show (a == b) = _
  by_cases h : a = b
  · subst h; simp
  · rw [decide_eq_false h]; exact beq_eq_false_iff_ne.mpr h) l m
end L3
namespace L3
open PySem PySem.Spec PyProof.Rows L2
def tMethK (C : Addr) (m : Str) (sp : Sp) (gV : List V → List V → List V) (E : XK) (ta : TE) (tk : TA) : TE := fun σ H Q => ta σ H fun x H1 => ∃ a dx fs, x = .ref a ∧ H1 a = some (.ins C dx fs) ∧ fs.lookup m = none ∧
  tk σ H1 fun zs H2 => sp (gV [.ref a] zs) H2 Q E
section
variable {X : Cx} {CX : CXT} {k : Nat} {C f : Addr} {fd : FuncData} {ps ks : List Str} {sp : Sp} {E : XK} {m : Str} {apos pos : Pos} {o : Expr} {kws : List Keyword} {ta : TE} {tk : TA} {g : List Value → List Value → List Value} {gV : List V → List V → List V}
/-- o.m(k = v, ..) -/
theorem pe_methK {pl : Sem Bool} (he : PE X o ta) (c : Cls X.K C) (hm : Meth X.K C m f) (F : FnOk X.prog X.w X.K X.mg X.base CX k f fd ps sp) (hr : Room k X.A) (hb : KBinds X.K fd ps ks g gV) (hx : Passes CX X E)
    (hkw : PK X kws tk) (hall : (backToKw pos (keywordEach kws X.env)).all (·.1.isSome) = true := by rfl) (hks : (backToKw pos (keywordEach kws X.env)).filterMap (·.1) = ks := by rfl)
    (hpl : ((backTo pos (starEach [] X.env)).any (·.1) || (backToKw pos (keywordEach kws X.env)).any (·.1.isNone)) = false := by rfl)
    (ht : eval (.Call (.Attribute o m apos) [] kws pos) X.env = (do
      let ov ← eval o X.env
      standAt apos.atName
      let (f, first) ← holding [ov] (getMethod ov m pl)
      callWith pos f first (backTo pos (starEach [] X.env)) (backToKw pos (keywordEach kws X.env))) := by rfl) :
    PE X (.Call (.Attribute o m apos) [] kws pos) (tMethK C m sp gV E ta tk) := by
  refine ⟨fun pins s σ H Q I h => ?_⟩
  refine PySem.W.methodCall_KW (pl := pl) (thn (he.run pins s σ H _ I h) fun u s1 ⟨x, H1, I1, rx, a, dx, fs, ex, ea, l, q⟩ => ?_) ht
  subst ex
  obtain rfl : u = Value.ref a := rx
  refine getmeth_ok I1 ea c hm l ?_
  refine PySem.W.callWith_KW0 (first := [.ref a]) (h₀ := X.base) I.ok.mod.kin hm.kp hall (thn (hkw.run pos pins s1 σ H1 _ I1 q) fun ws s2 ⟨zs, H2, I2, rz, q2⟩ => ⟨I2.kIn, ?_⟩) hpl
  rw [hks]
  exact run_fnk (us := [.ref a]) (vs := [.ref a]) F hr hb hx I2 (.cons rfl .nil) rz q2
end
def mk2 {α : Type} : List α → List α → List α
  | [s], [w, v] => [s, v, w]
  | _, _ => []
theorem mk2_rel {vs : List V} {us : List Value} {zs : List V} {ws : List Value} (r : Vals vs us) (t : Vals zs ws) : Vals (mk2 vs zs) (mk2 us ws) := by
  match vs, us, zs, ws, r, t with
  | _, _, _, _, .nil, .nil => exact .nil
  | _, _, _, _, .nil, .cons _ _ => exact .nil
  | _, _, _, _, .cons a .nil, .nil => exact .nil
  | _, _, _, _, .cons a .nil, .cons b .nil => exact .nil
  | _, _, _, _, .cons a .nil, .cons b (.cons c .nil) => exact .cons a (.cons c (.cons b .nil))
  | _, _, _, _, .cons a .nil, .cons b (.cons c (.cons _ _)) => exact .nil
  | _, _, _, _, .cons a (.cons _ _), .nil => exact .nil
  | _, _, _, _, .cons a (.cons _ _), .cons b _ => exact .nil
end L3
namespace L3
open PySem PySem.Spec PyProof.Rows L2
/-- without what stands at D -/
def del (H : Hp) (D : Addr) : Hp := fun b => if b = D then none else H b
theorem del_upd (H : Hp) (D : Addr) (o : HO) : del (upd H D o) D = del H D := by
  funext b; unfold del upd
  by_cases h : b = D
  · rw [if_pos h, if_pos h]
  · rw [if_neg h, if_neg h, if_neg h]
theorem del_none {H : Hp} {D : Addr} (h : H D = none) : del H D = H := by
  funext b; unfold del
  by_cases e : b = D
  · rw [if_pos e, e, h]
  · rw [if_neg e]
theorem del_ne {H : Hp} {D b : Addr} (h : b ≠ D) : del H D b = H b := by unfold del; rw [if_neg h]
theorem del_same (H : Hp) (D : Addr) : Same (del H D) H := fun b o e => by
  unfold del at e
  by_cases h : b = D
  · rw [if_pos h] at e; cases e
  · rw [if_neg h] at e; exact e
theorem same_del {H H' : Hp} {D : Addr} (s : Same H H') (h : H D = none) : Same H (del H' D) := fun b o e => by
  rw [del_ne (ne_of_none e h)]; exact s b o e
theorem del_mono {H H' : Hp} (D : Addr) (s : Same H H') : Same (del H D) (del H' D) := fun b o e => by
  unfold del at e ⊢
  by_cases h : b = D
  · rw [if_pos h] at e; cases e
  · rw [if_neg h] at e ⊢; exact s b o e
/-- data does not look at instances -/
theorem sqL_del {K : PySem.W.Frag} {H : Hp} {x C dx a : Addr} {fs : List (Str × V)} {xs : List V} (hx : H x = some (.ins C dx fs)) (h : SqL K H a xs) : SqL K (del H x) a xs := by
  rcases h with (h | ⟨o, h⟩) | h
  · exact .inl (.inl (by rw [del_ne (ne_of h hx (by intro z; cases z))]; exact h))
  · exact .inl (.inr ⟨o, by rw [del_ne (ne_of h hx (by intro z; cases z))]; exact h⟩)
  · exact .inr h
theorem sqT_del {K : PySem.W.Frag} {H : Hp} {x C dx a : Addr} {fs : List (Str × V)} {xs : List V} (hx : H x = some (.ins C dx fs)) (h : SqT K H a xs) : SqT K (del H x) a xs := by
  rcases h with (h | ⟨o, h⟩) | h
  · exact .inl (.inl (by rw [del_ne (ne_of h hx (by intro z; cases z))]; exact h))
  · exact .inl (.inr ⟨o, by rw [del_ne (ne_of h hx (by intro z; cases z))]; exact h⟩)
  · exact .inr h
theorem sq_del {K : PySem.W.Frag} {H : Hp} {x C dx : Addr} {v : V} {fs : List (Str × V)} {xs : List V} (hx : H x = some (.ins C dx fs)) (h : Sq K H v xs) : Sq K (del H x) v xs := by
  obtain ⟨a, e, h⟩ := h
  exact ⟨a, e, h.elim (fun h => .inl (sqL_del hx h)) fun h => .inr (sqT_del hx h)⟩
mutual
theorem dp_del {K : PySem.W.Frag} {H : Hp} {x C dx : Addr} {fs : List (Str × V)} (hx : H x = some (.ins C dx fs)) : ∀ {v : V} {d : PyData}, Dp K H v d → Dp K (del H x) v d
  | _, _, .non => .non
  | _, _, .bl b => .bl b
  | _, _, .int i => .int i
  | _, _, .str x => .str x
  | _, _, .lst h a => .lst (sqL_del hx h) (dpAll_del hx a)
  | _, _, .tup h a => .tup (sqT_del hx h) (dpAll_del hx a)
theorem dpAll_del {K : PySem.W.Frag} {H : Hp} {x C dx : Addr} {fs : List (Str × V)} (hx : H x = some (.ins C dx fs)) : ∀ {vs : List V} {ds : List PyData}, DpAll K H vs ds → DpAll K (del H x) vs ds
  | _, _, .nil => .nil
  | _, _, .cons a b => .cons (dp_del hx a) (dpAll_del hx b)
end
theorem del_at (H : Hp) (D : Addr) : del H D D = none := by unfold del; rw [if_pos rfl]
/-- a comprehension: Pv of the list so far and the heap without it -/
theorem lc_dp {J : It} {n : Nat} {G : Hp → Prop} {Y : Nat → Hp → V → Hp → Prop} (w : Walk J n G Y) {g : TG} {tt : TT} {te : TE} {vs : List Nat} {σ : L2.St} {H1 : Hp} {D : Addr} {Qd : Hp → Prop} (Pv : Nat → List V → Hp → Prop) (hz : n ≤ sizeLine) (hA : ∀ i acc H, Pv i acc H → acc.length ≤ i)
    (nD : H1 D = none) (h0 : Pv 0 [] H1) (hG : ∀ i acc H, Pv i acc (del H D) → H D = some (.lst acc) → G H)
    (hs : ∀ i x H H' acc (C : VK) (N : Hp → Prop), i < n → Pv i acc (del H D) → H D = some (.lst acc) → Y i H x H' → (∀ v H4, H4 D = some (.lst acc) → Pv (i + 1) (acc ++ [v]) (del H4 D) → C v H4) → (∀ H3, H3 D = some (.lst acc) → Pv (i + 1) acc (del H3 D) → N H3) →
      g x (wipe σ vs) H' fun σ2 H2 => wipe σ2 vs = wipe σ vs ∧ tt σ2 H2 fun b H3 => if b = true then te σ2 H3 C else N H3)
    (hd : ∀ H xs, H D = some (.lst xs) → Pv n xs (del H D) → Qd H) :
    ∃ W : Nat → Nat → Hp → Prop, (∃ m, W 0 m (upd H1 D (.lst []))) ∧ ∀ i m H, W i m H →
      (J.stop i H ∧ Qd H) ∨ (J.go i H ∧ ∃ Nx : Hp → Prop, (∀ H', Nx H' → ∃ m', m' < m ∧ W (i + 1) m' H') ∧ ∀ x H', J.yld i H x H' → g x (wipe σ vs) H' fun σ2 H2 => wipe σ2 vs = wipe σ vs ∧ tt σ2 H2 fun b H3 =>
        if b = true then te σ2 H3 fun y H4 => ∃ acc, H4 D = some (.lst acc) ∧ acc.length < sizeLine ∧ Nx (upd H4 D (.lst (acc ++ [y]))) else Nx H3) := by
  refine lc_it w (fun i H => ∃ acc, H D = some (.lst acc) ∧ Pv i acc (del H D)) ⟨[], upd_same, by rw [del_upd, del_none nD]; exact h0⟩ (fun i H _ p => by obtain ⟨acc, h1, h2⟩ := p; exact hG i acc H h2 h1) (fun i x H H' hi p y => ?_) fun H p => ?_
  · obtain ⟨acc, hD, ha⟩ := p
    refine hs i x H H' acc _ _ hi ha hD y (fun v H4 d4 a4 => ⟨acc, d4, ?_, _, upd_same, by rw [del_upd]; exact a4⟩) (fun H3 d3 a3 => ⟨acc, d3, a3⟩)
    have := hA i acc _ ha
    omega
  · obtain ⟨acc, hD, ha⟩ := p
    exact hd H acc hD ha
/-- .. of data, one item a turn, where all else stays -/
theorem lc_data {K : PySem.W.Frag} {J : It} {n : Nat} {G : Hp → Prop} {Y : Nat → Hp → V → Hp → Prop} (w : Walk J n G Y) {g : TG} {te : TE} {vs : List Nat} {σ : L2.St} {H1 : Hp} {D : Addr} {Qd : Hp → Prop} (ds : List PyData) (hn : ds.length = n) (hz : n ≤ sizeLine)
    (nD : H1 D = none) (hG : ∀ H, Same H1 H → G H)
    (hs : ∀ i x H H' acc d (C : VK), i < n → Same H1 H → H D = some (.lst acc) → Y i H x H' → ds[i]? = some d → (∀ v H4, Same H H4 → Dp K (del H4 D) v d → C v H4) → g x (wipe σ vs) H' fun σ2 H2 => wipe σ2 vs = wipe σ vs ∧ te σ2 H2 C)
    (hgm : ∀ x σ H (Q Q' : L2.St → Hp → Prop), (∀ σ2 H2, Q σ2 H2 → Q' σ2 H2) → g x σ H Q → g x σ H Q')
    (hd : ∀ H xs, Same H1 H → H D = some (.lst xs) → DpAll K (del H D) xs ds → Qd H) :
    ∃ W : Nat → Nat → Hp → Prop, (∃ m, W 0 m (upd H1 D (.lst []))) ∧ ∀ i m H, W i m H →
      (J.stop i H ∧ Qd H) ∨ (J.go i H ∧ ∃ Nx : Hp → Prop, (∀ H', Nx H' → ∃ m', m' < m ∧ W (i + 1) m' H') ∧ ∀ x H', J.yld i H x H' → g x (wipe σ vs) H' fun σ2 H2 => wipe σ2 vs = wipe σ vs ∧ tYes σ2 H2 fun b H3 =>
        if b = true then te σ2 H3 fun y H4 => ∃ acc, H4 D = some (.lst acc) ∧ acc.length < sizeLine ∧ Nx (upd H4 D (.lst (acc ++ [y]))) else Nx H3) := by
  refine lc_dp w (fun i acc H => Same H1 H ∧ DpAll K H acc (ds.take i)) hz (fun i acc H p => ?_) nD ⟨Same.refl _, .nil⟩ (fun i acc H p _ => hG H (p.1.trans (del_same _ _))) (fun i x H H' acc C N hi p hD y c nn => ?_) (fun H xs hD p => ?_)
  · rw [dpAll_len p.2, List.length_take]; omega
  · have hlt : i < ds.length := by omega
    refine hgm _ _ _ _ _ (fun σ2 H2 h => ⟨h.1, yes_te h.2⟩) (hs i x H H' acc ds[i] C hi (p.1.trans (del_same _ _)) hD y (List.getElem?_eq_getElem hlt) fun v H4 s4 d4 => ?_)
    have s5 := del_mono D s4
    refine c v H4 (s4 _ _ hD) ⟨p.1.trans s5, ?_⟩
    rw [List.take_add_one, List.getElem?_eq_getElem hlt]
    exact dpAll_app (DpAll.same s5 p.2) (.cons d4 .nil)
  · have e : ds.take n = ds := by rw [← hn]; exact List.take_length
    rw [e] at p
    exact hd H xs (p.1.trans (del_same _ _)) hD p.2
theorem gName_mono {i : Nat} : ∀ x σ H (Q Q' : L2.St → Hp → Prop), (∀ σ2 H2, Q σ2 H2 → Q' σ2 H2) → gName i x σ H Q → gName i x σ H Q' := fun _ _ _ _ _ h q => h _ _ q
end L3
namespace L3
open PySem PySem.Spec PyProof.Rows L2
section
variable {X : Cx} {K : PySem.W.Frag}
theorem ix_listK (h : X.K = K) : IxR X (rIxL K) := h ▸ ix_list
theorem ix_tupK (h : X.K = K) : IxR X (rIxT K) := h ▸ ix_tup
theorem call_list_ofK (h : X.K = K) : CallR X (.type "list") (fun xs H Q => ∃ p ys, xs = [.ref p] ∧ (SqL K H p ys ∨ SqT K H p ys) ∧ ∀ l, H l = none → Q (.ref l) (upd H l (.lst ys))) := h ▸ call_list_of
theorem call_tuple_ofK (h : X.K = K) : CallR X (.type "tuple") (fun xs H Q => ∃ p ys, xs = [.ref p] ∧ ((SqL K H p ys ∧ ∀ l, H l = none → Q (.ref l) (upd H l (.tup ys))) ∨ (SqT K H p ys ∧ Q (.ref p) H))) := h ▸ call_tuple_of
theorem op_inNK (h : X.K = K) : OpR X (compareOp .In) (fun x y H Q => ∃ (l : List Nat) (n : Nat), x = .int (n : Int) ∧ Sq K H y (nV l) ∧ Q (.bl (decide (n ∈ l))) H) := h ▸ op_inN
theorem op_notInNK (h : X.K = K) : OpR X (compareOp .NotIn) (fun x y H Q => ∃ (l : List Nat) (n : Nat), x = .int (n : Int) ∧ Sq K H y (nV l) ∧ Q (.bl (!decide (n ∈ l))) H) := h ▸ op_notInN
theorem mt_indexNK (h : X.K = K) : MtR X "list.index" (fun x xs H Q => ∃ (a : Addr) (l : List Nat) (n : Nat), x = .ref a ∧ xs = [.int (n : Int)] ∧ SqL K H a (nV l) ∧ n ∈ l ∧ Q (.int ((l.idxOf n : Nat) : Int)) H) := h ▸ mt_indexN
theorem pi_listK {tg l : Expr} {tl : TE} (h : X.K = K) (hl : PE X l tl) : PI X tg l (iList K tl) := h ▸ pi_list hl
theorem pe_fldK {e : Expr} {f : Str} {pos : Pos} {ta : TE} (h : X.K = K) (he : PE X e ta) (hb : attributeBase e f X.env (eval e X.env) = eval e X.env) : PE X (.Attribute e f pos) (tFld K ta f) := h ▸ pe_fld he hb
theorem pg_tupK {es : List Expr} {k : Nat} {pos : Pos} {t : TGs} {n : Nat} (h : X.K = K) (hc : X.calm = true) (hp : PGs X es t)
    (hn : (assignEach es X.env).length = n) (hst : (assignEach es X.env).findIdx? (·.1) = none := by rfl) : PG X (.Tuple es k pos) (gTup K n t) := h ▸ pg_tup hc hp hn hst
theorem sl_listK (h : X.K = K) : SlR X (rSlL K) := h ▸ sl_list
theorem pe_bmk {T id : String} {name : Str} {o e : Expr} {es : List Expr} {apos cpos : Pos} {r : V → List V → Hp → VK → Prop} {to : TE} {t : TA} (h : X.K = K) (pa : PlainAttrs T) (slot : Slot T name id) (hty : typeOf (.builtin id) = pure (.type "method_descriptor")) (hm : MtR X id r) (ho : PE X o to) (ha : PA X (e :: es) t)
    (hbase : attributeBase o name X.env (eval o X.env) = eval o X.env := by rfl)
    (hfew : ((backTo cpos (starEach (e :: es) X.env)).all (fun x => !x.1) && (backToKw cpos (keywordEach [] X.env)).all (fun x => x.1.isSome)
      && decide ((e :: es).length + ([] : List Keyword).length + (if ([] : List Keyword).isEmpty then 0 else 1) < 30)) = true := by rfl)
    (hline : (apos.endLine == cpos.line) = true := by rfl) (hs : starEach (e :: es) X.env = (false, eval e X.env) :: starEach es X.env := by rfl) (hplain : (backTo cpos (starEach es X.env)).any (·.1) = false := by rfl) :
    PE X (.Call (.Attribute o name apos) (e :: es) [] cpos) (tBM K T r to t) := h ▸ pe_bm pa slot hty hm ho ha hbase hfew hline hs hplain
variable {C f : Addr} {fd : FuncData} {k : Nat} {sp : Sp} {y : Str}
end
end L3
namespace L3
open PySem PySem.Spec PyProof.Rows L2
section
variable {X : Cx} {C f : Addr} {fd : FuncData} {k : Nat} {sp : Sp} {y : Str}
/-- the answer is an object -/
def refQ (Q : VK) : VK := fun v H => ∃ p : Addr, v = .ref p ∧ Q (.ref p) H
end
end L3
namespace L3
open PySem PySem.Spec PyProof.Rows L2
/-- an error object: its class, the tuple of its args, its dict -/
abbrev erO (C t : Addr) (d : Option Addr) : Obj := { cls := .ref C, dict := d, data := .fields #[.ref t, .none, .none, .none, .bool false, .none] }
section
open Builtin Builtin.ObjectAttr
variable {prog : Program} {w : World} {A : Around} {R : Result → Shared → Prop} {hp : Heap} {g : Array GenState} {d : Drawn} {t : Nat} {os : OsState} {K : PySem.W.Frag} {name : Str} {tk : Tok} {v : Value} {x C : Addr} {fv : Array Value} {cd : ClassData}
/-- what the class's line lets: no class in it takes the store for itself -/
structure Lets0 (cd : ClassData) : Prop where
  pass : ∀ self : Value, refuseLoop self "__setattr__" cd.mro = pure ()
  obj : cd.mro.contains (.type "object") = true
  ne : cd.mro.isEmpty = false
  dct : cd.hasDict = true
/-- the first field -/
theorem er_new (X : K.In hp) (hx : hp.get? x = some { cls := .ref C, data := .fields fv }) (hcd : PySem.W.clsIn K C = some cd) (L : Lets0 cd) (ha : PySem.W.findIn K (.ref C) name = some none)
    (hq : ∀ h' tk' dx, (∀ b o, b ≠ x → hp.get? b = some o → h'.get? b = some o) → hp.objs.size ≤ dx → dx ≠ x → h'.get? x = some { cls := .ref C, dict := some dx, data := .fields fv } →
      h'.Ns1 dx (fun y => if y = name then some v else none) → R (.ok (.ret .none)) ⟨h', g, d, tk', os⟩) :
    codeAny (model prog w) A (.call (.builtin "object.__setattr__") ⟨[.ref x, .str name tk, v], []⟩) R ⟨hp, g, d, t, os⟩ := by
  have In0 : PySem.W.InstAt hp x { cls := .ref C, data := .fields fv } C none := ⟨hx, rfl, rfl, trivial⟩
  have StF := F.store_object
  have nxs : x ≠ hp.objs.size := Nat.ne_of_lt (Heap.lt_size hx)
  have isO : PySem.W.Looks (model prog w) hp (isInstance (.ref x) (.type "object")) true := In0.type.andThen (PySem.W.looks_mroIn X (by unfold PySem.W.mroIn; rw [hcd, Option.bind_some, if_neg (by rw [L.ne]; decide), L.obj]))
  refine codeAny_call_builtin StF.slot.plain StF.entry (@PySem.W.check_slot (model prog w) _ _ ⟨hp, g, d, t, os⟩ "object.__setattr__" "object" "__setattr__" (.ref x) [.str name tk, v] [] _ StF.kind StF.split isO (StF.args (.ref x) (.str name tk) v) ?_)
  have lmro : PySem.W.Looks (model prog w) hp (mroOf (.ref C)) cd.mro := (PySem.W.looks_clsIn X hcd).andThen .now
  have lst : PySem.W.Looks (model prog w) hp (storeTaker? none) none := .now
  have lcls : PySem.W.Looks (model prog w) hp (classData C) cd := PySem.W.looks_clsIn X hcd
  rw [PySem.W.osa_eq, refuse_eq]
  refine wpAny_bind (wpAny_bind (In0.type.at (wpAny_bind (lmro.at ?_))))
  rw [L.pass]
  refine wpAny_pure (wpAny_bind (In0.type.at (wpAny_bind ((PySem.W.looks_findIn X ha).at (wpAny_bind (lst.at ?_))))))
  show wpAny _ _ (storeInOwnDict (.ref x) (.ref C) (.str name tk) name v false) _ _ _
  have hdc := L.dct
  clear L
  obtain ⟨nm, bs, mro, ns, qn, hd, sn, sb, ab, col, del⟩ := cd
  dsimp only at hdc
  subst hdc
  unfold storeInOwnDict ownDictForStores
  repeat (first | with_reducible refine PySem.HandSPX.store_in_new ?_ ?_ | with_reducible refine wpAny_loadPart_at hx ?_ | with_reducible refine lcls.at ?_ | wp_step)
  · exact ⟨_, #[], _, (Heap.get?_update_ne _ _ _ _ nxs.symm).trans (Heap.get?_push_at rfl rfl), rfl, fun e he => absurd he (by simp), fun _ => rfl⟩
  · intro h' tk' hn' hs
    have hx1 : (hp.push { cls := .type "dict", data := .dict #[] }).get? x = some { cls := .ref C, data := .fields fv } := Heap.get?_push_of_some _ hx
    refine hq h' tk' hp.objs.size (fun b o hb ho => ?_) (Nat.le_refl _) nxs.symm ?_ hn'
    · exact (hs.2 b (Nat.ne_of_lt (Heap.lt_size ho))).trans ((Heap.get?_update_ne _ _ _ _ hb).trans (Heap.get?_push_of_some _ ho))
    · exact (hs.2 x nxs).trans (Heap.get?_update_self _ hx1 rfl)
/-- a further field -/
theorem er_old {dx : Addr} {m0 : Str → Option Value} {nl : List Str} (X : K.In hp) (hx : hp.get? x = some { cls := .ref C, dict := some dx, data := .fields fv }) (hns : hp.Ns1 dx m0) (hw : Within m0 nl) (hz : nl.length ≤ 1000)
    (hcd : PySem.W.clsIn K C = some cd) (L : Lets0 cd) (ha : PySem.W.findIn K (.ref C) name = some none)
    (hq : ∀ h' tk', (∀ b o, b ≠ dx → hp.get? b = some o → h'.get? b = some o) → h'.Ns1 dx (fun y => if y = name then some v else m0 y) → R (.ok (.ret .none)) ⟨h', g, d, tk', os⟩) :
    codeAny (model prog w) A (.call (.builtin "object.__setattr__") ⟨[.ref x, .str name tk, v], []⟩) R ⟨hp, g, d, t, os⟩ := by
  obtain ⟨oD, esD, epD, hoD, hdD, _⟩ := hns.count hw
  have In0 : PySem.W.InstAt hp x { cls := .ref C, dict := some dx, data := .fields fv } C (some oD) := ⟨hx, rfl, rfl, hoD⟩
  have StF := F.store_object
  have isO : PySem.W.Looks (model prog w) hp (isInstance (.ref x) (.type "object")) true := In0.type.andThen (PySem.W.looks_mroIn X (by unfold PySem.W.mroIn; rw [hcd, Option.bind_some, if_neg (by rw [L.ne]; decide), L.obj]))
  refine codeAny_call_builtin StF.slot.plain StF.entry (@PySem.W.check_slot (model prog w) _ _ ⟨hp, g, d, t, os⟩ "object.__setattr__" "object" "__setattr__" (.ref x) [.str name tk, v] [] _ StF.kind StF.split isO (StF.args (.ref x) (.str name tk) v) ?_)
  have lmro : PySem.W.Looks (model prog w) hp (mroOf (.ref C)) cd.mro := (PySem.W.looks_clsIn X hcd).andThen .now
  have lst : PySem.W.Looks (model prog w) hp (storeTaker? none) none := .now
  have lcls : PySem.W.Looks (model prog w) hp (classData C) cd := PySem.W.looks_clsIn X hcd
  rw [PySem.W.osa_eq, refuse_eq]
  refine wpAny_bind (wpAny_bind (In0.type.at (wpAny_bind (lmro.at ?_))))
  rw [L.pass]
  refine wpAny_pure (wpAny_bind (In0.type.at (wpAny_bind ((PySem.W.looks_findIn X ha).at (wpAny_bind (lst.at ?_))))))
  show wpAny _ _ (storeInOwnDict (.ref x) (.ref C) (.str name tk) name v false) _ _ _
  have hdc := L.dct
  clear L
  obtain ⟨nm, bs, mro, ns, qn, hd, sn, sb, ab, col, del⟩ := cd
  dsimp only at hdc
  subst hdc
  unfold storeInOwnDict ownDictForStores
  repeat (first | with_reducible refine PySem.OEX.store_in_old hns hw hz ?_ | with_reducible refine wpAny_loadPart_at hx ?_ | with_reducible refine lcls.at ?_ | wp_step)
  intro h' tk' hn' hs
  exact hq h' tk' (fun b o hb ho => (hs.2 b hb).trans ho) hn'
end
end L3
namespace L3
open PySem PySem.Spec PyProof.Rows L2 Builtin Builtin.ObjectAttr
/-- what the written part says of an error class: its own __init__ says super().__init__('..') -/
structure ErrF (P : Program) (K : PySem.W.Frag) (mg : Str → Option Value) (C fI : Addr) (B newId initId : String) (bmB : List Value) (ps : List Str) (params : Arguments) (body : List Stmt) (scope : Scope) : Prop where
  bf : ExcBaseFacts B newId initId bmB
  obj : bmB.contains (.type "object") = true
  sf : PySem.W.KxsFacts B initId
  cls : ∃ nm q N bs bm sn sub ab col dd k0 k1 k2 k3 k5, K.lookup C = some (excClassObj nm q C N bs bm true sn sub ab col dd k0 k1 k2 k3 k5 newId) ∧ (∀ X : String, bm.contains (.type X) = bmB.contains (.type X)) ∧
    ∀ self : Value, refuseLoop self "__setattr__" (.ref C :: bm) = pure ()
  fn : ∃ qual dV kV doc pm an cda ct cc oc od osl vs file tf ccl cdd ccs cl cld csl, K.lookup fI = some ⟨oc, od, .func (PySem.W.ksFn "__init__" qual params body scope dV kV doc pm an (.ref cda) ct cc), osl⟩ ∧ PySem.W.codeIn K (.ref cda) qual = true ∧
    K.lookup cda = some ⟨ccl, cdd, .fields vs, ccs⟩ ∧ vs[2]? = some (.str file tf) ∧ ((P.main.file : Str) == file) = true ∧ K.lookup cc = some ⟨cl, cld, .cell (some (.ref C)), csl⟩ ∧
    ∀ s us, us.length = ps.length → BindsTo s (PySem.W.ksFn "__init__" qual params body scope dV kV doc pm an (.ref cda) ct cc) ⟨us, []⟩ (ps.zip us)
  sup : PySem.W.ks_superIn K C C "__init__" = some (some (.builtin initId))
  self : PySem.W.mroIn K C (.ref C) = some true
  subB : PySem.W.subIn K (.ref C) (.type B) = some true
  opq : PySem.W.nsIn K cStatics "thirdparty.any" = some none
  glb : mg "super" = none
  top : (P.main.scope.names.lookup ("super" : Str)).isSome = false
  sa : PySem.W.findIn K (.ref C) "__setattr__" = some (some (.builtin "object.__setattr__"))
  ini : PySem.W.findIn K (.ref C) "__init__" = some (some (.ref fI))
  tI : PySem.W.typeIn K (.ref fI) = some (.type "function")
  kC : PySem.W.keepIn K (.ref C) = true
  exC : PySem.W.subIn K (.ref C) (.type "BaseException") = some true
  tyC : PySem.W.typeIn K (.ref C) = some (.type "type")
/-- the scope of such an __init__ -/
structure ErrS (ps : List Str) (params : Arguments) (scope : Scope) : Prop where
  sup : scope.names.lookup ("super" : Str) = some .globalImplicit
  cls : scope.names.lookup ("__class__" : Str) = some .free
  loc : ∀ x ∈ ps, scope.names.lookup x = some .local
  fst : ∃ ar : Arg, (params.posonlyargs ++ params.args).head? = some ar ∧ ar.arg = "self"
  hd : ps.head? = some "self"
  nd : ps.Nodup
  knd : scope.kind = .function
  cell : ∀ x ∈ scope.names, x.2 ≠ .cell
  co : scope.isCoroutine = false
  gn : scope.isGenerator = false
/-- the first row: super().__init__('..') -/
abbrev supE (txt : Str) (kk : Nat) (p0 p1 p2 p3 p4 : Pos) : Expr := .Call (.Attribute (.Call (.Name "super" p0) [] [] p1) "__init__" p2) [.Constant (.str txt) kk p3] [] p4
/-- it is read as a call of a method -/
def SupOk (scope : Scope) (txt : Str) (kk : Nat) (p0 p1 p2 p3 p4 : Pos) : Prop := ∀ (qual : Str) (L f : Addr) (cd : Value) (cc : Addr), ∃ pl : Sem Bool, eval (supE txt kk p0 p1 p2 p3 p4) (PySem.W.ksEnv qual scope L f cd cc) = (do
      let ov ← attributeBase (.Call (.Name "super" p0) [] [] p1) "__init__" (PySem.W.ksEnv qual scope L f cd cc) (eval (.Call (.Name "super" p0) [] [] p1) (PySem.W.ksEnv qual scope L f cd cc))
      standAt p2.atName
      let (f', first) ← holding [ov] (getMethod ov "__init__" pl)
      callWith p4 f' first (backTo p4 (starEach [.Constant (.str txt) kk p3] (PySem.W.ksEnv qual scope L f cd cc))) [])
/-- what stands around a run -/
structure ErrW (K : PySem.W.Frag) (mg : Str → Option Value) (h : Heap) : Prop where
  kin : K.In h
  glob : h.Ns mainGlobals mg
  blt : ∃ mb, h.Ns builtinsNs mb ∧ mb "super" = some (.type "super")
section
variable {P : Program} {w : World} {A : Around} {E : Value → Shared → Prop} {K : PySem.W.Frag} {mg : Str → Option Value} {C fI : Addr} {B newId initId : String} {bmB : List Value} {ps : List Str} {params : Arguments} {body : List Stmt} {scope : Scope}
theorem ErrW.keeps {h h' : Heap} (W : ErrW K mg h) (k : ∀ b o, h.get? b = some o → h'.get? b = some o) : ErrW K mg h' := by
  obtain ⟨mb, h1, h2⟩ := W.blt
  exact ⟨W.kin.keeps k, W.glob.keeps k, mb, h1.keeps k, h2⟩
theorem ErrW.but {h h' : Heap} {e : Addr} (W : ErrW K mg h) (he : K.lookup e = none) (h1 : e ≠ mainGlobals) (h2 : e ≠ builtinsNs) (k : ∀ b o, b ≠ e → h.get? b = some o → h'.get? b = some o) : ErrW K mg h' := by
  obtain ⟨mb, z1, z2⟩ := W.blt
  refine ⟨fun b o q => k b o (fun z => by rw [z, he] at q; cases q) (W.kin b o q), W.glob.at fun o q => k _ o h1.symm q, mb, z1.at fun o q => k _ o h2.symm q, z2⟩
/-- super().__init__('..') -/
theorem sup_stmt {qual : Str} {dV kV doc pm ct oc ccl cl : Value} {an od cdd cld : Option Addr} {cda cc L e t0 : Addr} {osl ccs csl : Array (Option Value)} {vs : Array Value} {file : Str} {tf : Tok} {m : Str → Option Value} {s : Shared} {body0 : List Stmt} {p0 p1 p2 p3 p4 p5 : Pos} {kk : Nat} {txt : Str} {Q : Flow → Shared → Prop}
    (T : ErrF P K mg C fI B newId initId bmB ps params body scope) (S : ErrS ps params scope) (W : ErrW K mg s.heap) (hev : SupOk scope txt kk p0 p1 p2 p3 p4)
    (hf : K.lookup fI = some ⟨oc, od, .func (PySem.W.ksFn "__init__" qual params body scope dV kV doc pm an (.ref cda) ct cc), osl⟩) (hc : K.lookup cda = some ⟨ccl, cdd, .fields vs, ccs⟩) (hv : vs[2]? = some (.str file tf)) (hfl : ((P.main.file : Str) == file) = true)
    (hcc : K.lookup cc = some ⟨cl, cld, .cell (some (.ref C)), csl⟩) (hn : s.heap.Ns L m) (hs : m "self" = some (.ref e)) (he : s.heap.get? e = some (erO C t0 none))
    (h : ∀ h' tk t', (∀ b o, b ≠ e → s.heap.get? b = some o → h'.get? b = some o) → h'.get? e = some (erO C t' none) → Q .next { s with heap := h', toks := tk }) :
    PySem.wpAt (model P w) A (.func body0 (PySem.W.ksEnv qual scope L fI (.ref cda) cc)) (exec (.Expr (supE txt kk p0 p1 p2 p3 p4) p5) (PySem.W.ksEnv qual scope L fI (.ref cda) cc)) Q E s := by
  obtain ⟨ar, ha1, ha2⟩ := S.fst
  obtain ⟨mb, hb1, hb2⟩ := W.blt
  obtain ⟨nm, q, N, bs, bm, sn, sub, ab, col, dd, k0, k1, k2, k3, k5, hC, hT, _⟩ := T.cls
  have X := W.kin
  obtain ⟨hh, g, d, t, os⟩ := s
  have hcl : PySem.W.clsIn K C = some { name := nm, bases := bs, mro := .ref C :: bm, ns := N, qualname := q, hasDict := true, slotNames := sn, subclasses := sub, abstract := ab, collection := col, hasDel := false } := by unfold PySem.W.clsIn; rw [hC] <;> rfl
  have hself : scope.names.lookup ar.arg = some .local := by
    rw [ha2]
    exact S.loc "self" (List.mem_of_head? S.hd)
  have hCh := X _ _ hC
  obtain ⟨pl, hev'⟩ := hev qual L fI (.ref cda) cc
  have hint : interactive (PySem.W.ksEnv qual scope L fI (.ref cda) cc) = false := by
    show (scope.kind == .module && _) = false
    rw [S.knd]; rfl
  refine ks_wpAt_Expr_any (ks_wpAt_MethodCall (ks_wpAt_super_base (env := PySem.W.ksEnv qual scope L fI (.ref cda) cc) S.sup S.cls rfl rfl (X _ _ hf) rfl ha1 rfl (X _ _ hc) rfl hv hfl T.top ?_) hev') hint
  refine PySem.W.ks_loadName_global S.knd S.sup (Calls.loadGlobal_builtin (env := PySem.W.ksEnv qual scope L fI (.ref cda) cc) W.glob T.glb hb1 hb2 ⟨rfl, ?_⟩)
  refine wpAny_loadName_free S.knd S.cls rfl ⟨_, X _ _ hcc, rfl⟩ ?_
  refine wpAny_loadName_local S.knd hself hn (by rw [ha2]; exact hs) ?_
  refine ks_wpAny_isType_cls hCh rfl ⟨rfl, ?_⟩
  refine ks_wpAny_call_super hCh rfl he rfl (fun c z => by cases z) (PySem.W.looks_mroIn X T.self) (fun h1 e1 k1' => ?_)
  have X1 : K.In h1 := X.keeps k1'
  have he1 := k1' _ _ he
  have I1 : PySem.W.InstAt h1 e (erO C t0 none) C none := ⟨he1, rfl, rfl, trivial⟩
  have hsup := T.sup
  unfold PySem.W.ks_superIn at hsup
  rw [hcl] at hsup
  refine PySem.W.kxs_getMethod T.sf e1 (PySem.W.looks_opaque X1 T.opq) (l₀ := .ref C :: bm) (fun A Q E s k q => wpAny_bind ((PySem.W.looks_clsIn X1 hcl) A _ E s k (wpAny_pure q))) rfl X1 hsup (I1.type.andThen (PySem.W.looks_subIn X1 T.subB)) (PySem.W.ks_ne X1 I1 hcl) rfl ?_
  refine PySem.W.kxs_callWith (i := initId) (x := e) rfl ?_
  refine Calls.evalArgs_plain (Calls.spliced_cons (wpAny_Constant_str (k := kk) (pos := p3) (Calls.spliced_nil ?_)))
  have hw2 : (h1.push (PySem.W.kxs_mw initId e)).get? h1.objs.size = some (PySem.W.kxs_mw initId e) := Heap.get?_push_at rfl rfl
  have k2' : ∀ b o, h1.get? b = some o → (h1.push (PySem.W.kxs_mw initId e)).get? b = some o := fun b o z => Heap.get?_push_of_some _ z
  refine ⟨hw2, ?_⟩
  refine wpAny_call (codeAny_of_tree ?_)
  show wpAny _ A.in1 (callAny (.ref h1.objs.size) ⟨[.str txt _], []⟩) _ _ _
  simp only [callAny]
  refine wpAny_bind (wpAny_load hw2 ?_)
  simp only [PySem.W.kxs_mw, show (Value.type "method-wrapper" == Value.type "method" || Value.type "method-wrapper" == Value.type "builtin_function_or_method" || Value.type "method-wrapper" == Value.type "method-wrapper") = true by decide, if_true]
  refine PySem.W.KFB.if_so (by decide) ?_
  refine wpAny_bind (PySem.W.check_bound_init T.bf.toExcCallFacts (k2' _ _ (k1' _ _ hCh)) (k2' _ _ he1) rfl ?_)
  refine wpAny_bind (wpAny_pure (wpAny_pure ?_))
  refine ⟨plainId_quiet T.bf.init.plain _, codeAny_builtin T.bf.initEntry ?_⟩
  refine PySem.W.exc_init_tree (cls := .ref C) (t0 := t0) (dv := none) (c2 := .none) (c3 := .none) (b4 := .bool false) (k2' _ _ he1) (by rw [sizeLine_eq]; show 1 ≤ _; decide) (fun h3 k3' e3 _ => ?_)
  exact h h3 _ _ (fun b o hb z => k3' b o hb (k2' _ _ (k1' _ _ z))) e3
/-- self.f = x, the first one -/
theorem sto_new {qual : Str} {cda : Value} {cc L e t0 : Addr} {m : Str → Option Value} {s : Shared} {body0 : List Stmt} {p1 p2 p3 p4 : Pos} {f x : Str} {v : Value} {Q : Flow → Shared → Prop}
    (T : ErrF P K mg C fI B newId initId bmB ps params body scope) (S : ErrS ps params scope) (X : K.In s.heap) (hn : s.heap.Ns L m) (hs : m "self" = some (.ref e)) (hx : m x = some v) (hself : scope.names.lookup ("self" : Str) = some .local) (hxl : scope.names.lookup x = some .local) (hdb : (x == ("__debug__" : Str)) = false) (hfn : PySem.W.findIn K (.ref C) f = some none)
    (he : s.heap.get? e = some (erO C t0 none)) (hsw : swapsWith (.Name x p3) (some (.Attribute (.Name "self" p1) f p2)) p4.line (PySem.W.ksEnv qual scope L fI cda cc) = pure false)
    (h : ∀ h' tk dx, (∀ b o, b ≠ e → s.heap.get? b = some o → h'.get? b = some o) → s.heap.objs.size ≤ dx → dx ≠ e → h'.get? e = some (erO C t0 (some dx)) → h'.Ns1 dx (fun y => if y = f then some v else none) → Q .next { s with heap := h', toks := tk }) :
    PySem.wpAt (model P w) A (.func body0 (PySem.W.ksEnv qual scope L fI cda cc)) (exec (.Assign [.Attribute (.Name "self" p1) f p2] (.Name x p3) p4) (PySem.W.ksEnv qual scope L fI cda cc)) Q E s := by
  obtain ⟨nm, q, N, bs, bm, sn, sub, ab, col, dd, k0, k1, k2, k3, k5, hC, hT, hp⟩ := T.cls
  have hcl : PySem.W.clsIn K C = some { name := nm, bases := bs, mro := .ref C :: bm, ns := N, qualname := q, hasDict := true, slotNames := sn, subclasses := sub, abstract := ab, collection := col, hasDel := false } := by unfold PySem.W.clsIn; rw [hC] <;> rfl
  have hob : (Value.ref C :: bm).contains (.type "object") = true := by
    rw [List.contains_cons, hT, T.obj, Bool.or_true]
  refine ks_wpAt_Assign_Attr (wpAt_of_wpAny (wpAny_Name (wpAny_loadName_local S.knd hxl hn hx (wpAny_Name (wpAny_loadName_local S.knd hself hn hs ?_))) hdb)) hsw
  obtain ⟨hh, g, d, t, os⟩ := s
  refine PySem.W.set_plain X (ox := erO C t0 none) (od := none) ⟨he, rfl, rfl, trivial⟩ T.sa ?_
  exact er_new X he hcl ⟨hp, hob, rfl, rfl⟩ hfn fun h' tk' dx k dn dne hx' hn' => h h' tk' dx k dn dne hx' hn'
/-- self.f = x, a further one -/
theorem sto_old {qual : Str} {cda : Value} {cc L e t0 dx : Addr} {m m0 : Str → Option Value} {s : Shared} {body0 : List Stmt} {p1 p2 p3 p4 : Pos} {f x : Str} {v : Value} {nl : List Str} {Q : Flow → Shared → Prop}
    (T : ErrF P K mg C fI B newId initId bmB ps params body scope) (S : ErrS ps params scope) (X : K.In s.heap) (hn : s.heap.Ns L m) (hs : m "self" = some (.ref e)) (hx : m x = some v) (hself : scope.names.lookup ("self" : Str) = some .local) (hxl : scope.names.lookup x = some .local) (hdb : (x == ("__debug__" : Str)) = false) (hfn : PySem.W.findIn K (.ref C) f = some none)
    (he : s.heap.get? e = some (erO C t0 (some dx))) (hd : s.heap.Ns1 dx m0) (hw : Within m0 nl) (hz : nl.length ≤ 1000) (hsw : swapsWith (.Name x p3) (some (.Attribute (.Name "self" p1) f p2)) p4.line (PySem.W.ksEnv qual scope L fI cda cc) = pure false)
    (h : ∀ h' tk, (∀ b o, b ≠ dx → s.heap.get? b = some o → h'.get? b = some o) → h'.Ns1 dx (fun y => if y = f then some v else m0 y) → Q .next { s with heap := h', toks := tk }) :
    PySem.wpAt (model P w) A (.func body0 (PySem.W.ksEnv qual scope L fI cda cc)) (exec (.Assign [.Attribute (.Name "self" p1) f p2] (.Name x p3) p4) (PySem.W.ksEnv qual scope L fI cda cc)) Q E s := by
  obtain ⟨nm, q, N, bs, bm, sn, sub, ab, col, dd, k0, k1, k2, k3, k5, hC, hT, hp⟩ := T.cls
  have hcl : PySem.W.clsIn K C = some { name := nm, bases := bs, mro := .ref C :: bm, ns := N, qualname := q, hasDict := true, slotNames := sn, subclasses := sub, abstract := ab, collection := col, hasDel := false } := by unfold PySem.W.clsIn; rw [hC] <;> rfl
  have hob : (Value.ref C :: bm).contains (.type "object") = true := by
    rw [List.contains_cons, hT, T.obj, Bool.or_true]
  obtain ⟨oD, _, _, hoD, _, _⟩ := hd.count hw
  refine ks_wpAt_Assign_Attr (wpAt_of_wpAny (wpAny_Name (wpAny_loadName_local S.knd hxl hn hx (wpAny_Name (wpAny_loadName_local S.knd hself hn hs ?_))) hdb)) hsw
  obtain ⟨hh, g, d, t, os⟩ := s
  refine PySem.W.set_plain X (ox := erO C t0 (some dx)) (od := some oD) ⟨he, rfl, rfl, hoD⟩ T.sa ?_
  exact er_old X he hd hw hz hcl ⟨hp, hob, rfl, rfl⟩ hfn fun h' tk' k hn' => h h' tk' k hn'
/-- the stores behind super().__init__('..') -/
structure Sto (scope : Scope) (x f : Str) (q1 q2 q3 q4 : Pos) : Prop where
  loc : scope.names.lookup x = some .local
  db : (x == ("__debug__" : Str)) = false
  sw : ∀ (qual : Str) (L f' : Addr) (cd : Value) (cc : Addr), swapsWith (.Name x q3) (some (.Attribute (.Name "self" q1) f q2)) q4.line (PySem.W.ksEnv qual scope L f' cd cc) = pure false
/-- what is known of e and of all else, behind -/
structure ErrEnd (C e : Addr) (m0 : Str → Option Value) (s s' : Shared) : Prop where
  keep : ∀ b o, b ≠ e → s.heap.get? b = some o → s'.heap.get? b = some o
  at_ : ∃ t dx, s'.heap.get? e = some (erO C t (some dx)) ∧ s'.heap.Ns1 dx m0 ∧ s.heap.objs.size ≤ dx ∧ dx ≠ e
  gens : s'.gens = s.gens
  os : s'.os = s.os
section
variable {R : Result → Shared → Prop} {s : Shared} {e t0 : Addr} {p0 p1 p2 p3 p4 p5 q1 q2 q3 q4 r1 r2 r3 r4 : Pos} {kk : Nat} {txt x f y f2 : Str} {v u : Value}
theorem err_init1 {body : List Stmt} (T : ErrF P K mg C fI B newId initId bmB ["self", x] params body scope) (S : ErrS ["self", x] params scope) (hev : SupOk scope txt kk p0 p1 p2 p3 p4) (D : Sto scope x f q1 q2 q3 q4) (hfn : PySem.W.findIn K (.ref C) f = some none)
    (hbody : body = [.Expr (supE txt kk p0 p1 p2 p3 p4) p5, .Assign [.Attribute (.Name "self" q1) f q2] (.Name x q3) q4]) (hroom : A.depth < recursionLimit) (W : ErrW K mg s.heap) (hlim : s.heap.NoLimit) (n0 : K.lookup e = none) (n1 : e ≠ mainGlobals) (n2 : e ≠ builtinsNs)
    (he : s.heap.get? e = some (erO C t0 none)) (h : ∀ s', ErrEnd C e (fun z => if z = f then some v else none) s s' → R (.ok (.ret .none)) s') : codeAny (model P w) A (.call (.ref fI) ⟨[.ref e, v], []⟩) R s := by
  subst hbody
  obtain ⟨qual, dV, kV, doc, pm, an, cda, ct, cc, oc, od, osl, vs, file, tf, ccl, cdd, ccs, cl, cld, csl, hf, hcd, hc, hv, hfl, hcc, hbd⟩ := T.fn
  have hb := hbd s [.ref e, v] rfl
  have hself := S.loc "self" (List.mem_of_head? S.hd)
  have hne : ("self" : Str) ≠ x := by
    have := S.nd
    rw [List.nodup_cons] at this
    exact fun z => this.1 (by rw [z]; exact List.mem_cons_self)
  refine ks_codeAny_call_defAt (fd := PySem.W.ksFn "__init__" qual params _ scope dV kV doc pm an (.ref cda) ct cc) (binds := [(("self" : Str), .ref e), (x, v)]) hroom (W.kin _ _ hf) rfl hlim (PySem.W.codeRec_of W.kin hcd) rfl hb S.cell (fun z hz => ?_) (fun h0 hns hk => ?_) S.co S.gn S.knd
  · rcases List.mem_cons.mp hz with rfl | hz
    · exact hself
    · rw [List.mem_singleton.mp hz]; exact D.loc
  have W0 := W.keeps hk
  have hL : s.heap.objs.size ≠ e := Nat.ne_of_gt (Heap.lt_size he)
  have m1 : ([(("self" : Str), Value.ref e), (x, v)].reverse.lookup ("self" : Str)) = some (.ref e) := by
    show List.lookup _ [(x, v), (("self" : Str), Value.ref e)] = _
    rw [List.lookup_cons, show (("self" : Str) == x) = false from beq_eq_false_iff_ne.mpr hne]
    simp
  have m2 : ([(("self" : Str), Value.ref e), (x, v)].reverse.lookup x) = some v := by
    show List.lookup _ [(x, v), (("self" : Str), Value.ref e)] = _
    rw [List.lookup_cons, beq_self_eq_true]
  refine ks_wpAt_execs_cons (sup_stmt (s := { s with heap := h0, toks := _ }) T S W0 hev hf hc hv hfl hcc hns m1 (hk _ _ he) fun h1 tk1 t1 k1 e1 => ?_)
  have W1 := W0.but n0 n1 n2 k1
  have hns1 := hns.at fun o z => k1 _ o hL z
  refine ks_wpAt_execs_cons (sto_new (s := { s with heap := h1, toks := tk1 }) T S W1.kin hns1 m1 m2 hself D.loc D.db hfn e1 (D.sw _ _ _ _ _) fun h2 tk2 dx k2 dn dne e2 hd => ?_)
  refine wpAt_of_wpAny (wpAny_execs_nil ?_)
  refine h _ ⟨fun b o hb z => k2 b o hb (k1 b o hb (hk b o z)), ⟨t1, dx, e2, hd, ?_, dne⟩, rfl, rfl⟩
  exact Nat.le_trans (Nat.le_of_lt hns1.lt) dn
theorem err_init2 {body : List Stmt} (T : ErrF P K mg C fI B newId initId bmB ["self", x, y] params body scope) (S : ErrS ["self", x, y] params scope) (hev : SupOk scope txt kk p0 p1 p2 p3 p4) (D : Sto scope x f q1 q2 q3 q4) (D2 : Sto scope y f2 r1 r2 r3 r4) (hfn : PySem.W.findIn K (.ref C) f = some none) (hfn2 : PySem.W.findIn K (.ref C) f2 = some none)
    (hbody : body = [.Expr (supE txt kk p0 p1 p2 p3 p4) p5, .Assign [.Attribute (.Name "self" q1) f q2] (.Name x q3) q4, .Assign [.Attribute (.Name "self" r1) f2 r2] (.Name y r3) r4]) (hroom : A.depth < recursionLimit) (W : ErrW K mg s.heap) (hlim : s.heap.NoLimit) (n0 : K.lookup e = none) (n1 : e ≠ mainGlobals) (n2 : e ≠ builtinsNs)
    (he : s.heap.get? e = some (erO C t0 none)) (h : ∀ s', ErrEnd C e (fun z => if z = f2 then some u else if z = f then some v else none) s s' → R (.ok (.ret .none)) s') : codeAny (model P w) A (.call (.ref fI) ⟨[.ref e, v, u], []⟩) R s := by
  subst hbody
  obtain ⟨qual, dV, kV, doc, pm, an, cda, ct, cc, oc, od, osl, vs, file, tf, ccl, cdd, ccs, cl, cld, csl, hf, hcd, hc, hv, hfl, hcc, hbd⟩ := T.fn
  have hb := hbd s [.ref e, v, u] rfl
  have hself := S.loc "self" (List.mem_of_head? S.hd)
  have hne : ("self" : Str) ≠ x := by
    have := S.nd
    rw [List.nodup_cons] at this
    exact fun z => this.1 (by rw [z]; exact List.mem_cons_self)
  have hne2 : ("self" : Str) ≠ y := by
    have := S.nd
    rw [List.nodup_cons] at this
    exact fun z => this.1 (by rw [z]; simp)
  have hne3 : x ≠ y := by
    have := S.nd
    rw [List.nodup_cons, List.nodup_cons] at this
    exact fun z => this.2.1 (by rw [z]; simp)
  refine ks_codeAny_call_defAt (fd := PySem.W.ksFn "__init__" qual params _ scope dV kV doc pm an (.ref cda) ct cc) (binds := [(("self" : Str), .ref e), (x, v), (y, u)]) hroom (W.kin _ _ hf) rfl hlim (PySem.W.codeRec_of W.kin hcd) rfl hb S.cell (fun z hz => ?_) (fun h0 hns hk => ?_) S.co S.gn S.knd
  · rcases List.mem_cons.mp hz with rfl | hz
    · exact hself
    · rcases List.mem_cons.mp hz with rfl | hz
      · exact D.loc
      · rw [List.mem_singleton.mp hz]; exact D2.loc
  have W0 := W.keeps hk
  have hL : s.heap.objs.size ≠ e := Nat.ne_of_gt (Heap.lt_size he)
  have m1 : ([(("self" : Str), Value.ref e), (x, v), (y, u)].reverse.lookup ("self" : Str)) = some (.ref e) := by
    show List.lookup _ [(y, u), (x, v), (("self" : Str), Value.ref e)] = _
    rw [List.lookup_cons, show (("self" : Str) == y) = false from beq_eq_false_iff_ne.mpr hne2]
    dsimp only
    rw [List.lookup_cons, show (("self" : Str) == x) = false from beq_eq_false_iff_ne.mpr hne]
    simp
  have m2 : ([(("self" : Str), Value.ref e), (x, v), (y, u)].reverse.lookup x) = some v := by
    show List.lookup _ [(y, u), (x, v), (("self" : Str), Value.ref e)] = _
    rw [List.lookup_cons, show (x == y) = false from beq_eq_false_iff_ne.mpr hne3]
    dsimp only
    rw [List.lookup_cons, beq_self_eq_true]
  have m3 : ([(("self" : Str), Value.ref e), (x, v), (y, u)].reverse.lookup y) = some u := by
    show List.lookup _ [(y, u), (x, v), (("self" : Str), Value.ref e)] = _
    rw [List.lookup_cons, beq_self_eq_true]
  refine ks_wpAt_execs_cons (sup_stmt (s := { s with heap := h0, toks := _ }) T S W0 hev hf hc hv hfl hcc hns m1 (hk _ _ he) fun h1 tk1 t1 k1 e1 => ?_)
  have W1 := W0.but n0 n1 n2 k1
  have hns1 := hns.at fun o z => k1 _ o hL z
  refine ks_wpAt_execs_cons (sto_new (s := { s with heap := h1, toks := tk1 }) T S W1.kin hns1 m1 m2 hself D.loc D.db hfn e1 (D.sw _ _ _ _ _) fun h2 tk2 dx k2 dn dne e2 hd => ?_)
  have W2 := W1.but n0 n1 n2 k2
  have hns2 := hns1.at fun o z => k2 _ o hL z
  have wi : Within (fun z => if z = f then some v else none) [f] := Within.cons f v Within.nil
  refine ks_wpAt_execs_cons (sto_old (s := { s with heap := h2, toks := tk2 }) T S W2.kin hns2 m1 m3 hself D2.loc D2.db hfn2 e2 hd wi (by show 1 ≤ 1000; decide) (D2.sw _ _ _ _ _) fun h3 tk3 k3 hd3 => ?_)
  refine wpAt_of_wpAny (wpAny_execs_nil ?_)
  have hle := Nat.le_trans (Nat.le_of_lt hns1.lt) dn
  refine h _ ⟨fun b o hb z => k3 b o (fun z2 => absurd (z2 ▸ Heap.lt_size z) (Nat.not_lt.mpr hle)) (k2 b o hb (k1 b o hb (hk b o z))), ⟨t1, dx, k3 _ _ dne.symm e2, hd3, hle, dne⟩, rfl, rfl⟩
theorem err_init0 {body : List Stmt} (T : ErrF P K mg C fI B newId initId bmB ["self"] params body scope) (S : ErrS ["self"] params scope) (hev : SupOk scope txt kk p0 p1 p2 p3 p4)
    (hbody : body = [.Expr (supE txt kk p0 p1 p2 p3 p4) p5]) (hroom : A.depth < recursionLimit) (W : ErrW K mg s.heap) (hlim : s.heap.NoLimit) (n0 : K.lookup e = none) (n1 : e ≠ mainGlobals) (n2 : e ≠ builtinsNs)
    (he : s.heap.get? e = some (erO C t0 none)) (h : ∀ s' t', (∀ b o, b ≠ e → s.heap.get? b = some o → s'.heap.get? b = some o) → s'.heap.get? e = some (erO C t' none) → s'.gens = s.gens → s'.os = s.os → R (.ok (.ret .none)) s') : codeAny (model P w) A (.call (.ref fI) ⟨[.ref e], []⟩) R s := by
  subst hbody
  obtain ⟨qual, dV, kV, doc, pm, an, cda, ct, cc, oc, od, osl, vs, file, tf, ccl, cdd, ccs, cl, cld, csl, hf, hcd, hc, hv, hfl, hcc, hbd⟩ := T.fn
  have hb := hbd s [.ref e] rfl
  have hself := S.loc "self" (List.mem_of_head? S.hd)
  refine ks_codeAny_call_defAt (fd := PySem.W.ksFn "__init__" qual params _ scope dV kV doc pm an (.ref cda) ct cc) (binds := [(("self" : Str), .ref e)]) hroom (W.kin _ _ hf) rfl hlim (PySem.W.codeRec_of W.kin hcd) rfl hb S.cell (fun z hz => ?_) (fun h0 hns hk => ?_) S.co S.gn S.knd
  · rw [List.mem_singleton.mp hz]; exact hself
  have W0 := W.keeps hk
  have hL : s.heap.objs.size ≠ e := Nat.ne_of_gt (Heap.lt_size he)
  have m1 : ([(("self" : Str), Value.ref e)].reverse.lookup ("self" : Str)) = some (.ref e) := by
    show List.lookup _ [(("self" : Str), Value.ref e)] = _
    rw [List.lookup_cons, beq_self_eq_true]
  refine ks_wpAt_execs_cons (sup_stmt (s := { s with heap := h0, toks := _ }) T S W0 hev hf hc hv hfl hcc hns m1 (hk _ _ he) fun h1 tk1 t1 k1 e1 => ?_)
  refine wpAt_of_wpAny (wpAny_execs_nil ?_)
  exact h _ t1 (fun b o hb z => k1 b o hb (hk b o z)) e1 rfl rfl
end
end
end L3
namespace L3
open PySem PySem.Spec PyProof.Rows L2
section
variable {X : Cx} {pins : List (Addr × Obj)} {σ : L2.St} {H1 : Hp} {s1 s' : Shared} {a d : Addr} {fs : List (Str × V)} {mA : Str → Option Value}
/-- the error itself is let go, its dict is tracked -/
theorem err_inv (I1 : L2.Inv X pins σ H1 s1) (ha : s1.heap.objs.size ≤ a) (hd : s1.heap.objs.size ≤ d) (hda : d ≠ a) (k : ∀ b o, s1.heap.get? b = some o → s'.heap.get? b = some o) (hns : s'.heap.Ns1 d mA) (rel : ∀ f, RelO (fs.lookup f) (mA f)) :
    ∃ G, L2.Inv X pins σ (upd H1 d (.xd fs)) { s1 with heap := G, toks := s'.toks } ∧ (∀ b o, G.get? b = some o → s'.heap.get? b = some o) ∧ G.get? a = none ∧ (upd H1 d (.xd fs)) a = none := by
  obtain ⟨G, g1, g2⟩ := restrict s'.heap fun b => decide (b ≠ a)
  have gk : ∀ b, b ≠ a → G.get? b = s'.heap.get? b := fun b hb => g1 b (decide_eq_true hb)
  have ge : G.get? a = none := g2 a (by simp)
  have nha : ∀ {b : Addr} {o : Obj}, s1.heap.get? b = some o → b ≠ a := fun {b o} z => Nat.ne_of_lt (Nat.lt_of_lt_of_le (Heap.lt_size z) ha)
  have nhd : ∀ {b : Addr} {o : Obj}, s1.heap.get? b = some o → b ≠ d := fun {b o} z => Nat.ne_of_lt (Nat.lt_of_lt_of_le (Heap.lt_size z) hd)
  have nH : ∀ {b : Addr} {o : HO}, H1 b = some o → b ≠ d := fun {b o} z => Nat.ne_of_lt (Nat.lt_of_lt_of_le (I1.hok.lt z) hd)
  have nHa : ∀ {b : Addr} {o : HO}, H1 b = some o → b ≠ a := fun {b o} z => Nat.ne_of_lt (Nat.lt_of_lt_of_le (I1.hok.lt z) ha)
  have kG : ∀ b o, s1.heap.get? b = some o → G.get? b = some o := fun b o z => by rw [gk b (nha z)]; exact k b o z
  have U : L2.Un X.fs [] H1 (upd H1 d (.xd fs)) s1.heap G := {
    keep := fun b o z _ _ _ => kG b o z
    slot := fun b o z _ _ _ => ⟨o.slots, kG b o z⟩
    free := fun b o z n _ => by rw [upd_ne (nhd z)]; exact n
    there := fun b o z _ => ⟨o, kG b o z⟩
    tups := fun b xs z => by rw [upd_ne (nH z)]; exact z
    frzs := fun b o v z => by rw [upd_ne (nH z)]; exact z
    tbls := fun b ps z => ⟨#[], by rw [upd_ne (nH z), z]; simp⟩ }
  refine ⟨G, I1.un (t' := s'.toks) U fun b o z => ?_, fun b o z => ?_, ge, ?_⟩
  · by_cases hb : b = d
    · subst hb
      rw [upd_same] at z
      cases z
      exact ⟨mA, hns.at fun o y => (gk b hda).trans y, rel⟩
    · rw [upd_ne hb] at z
      exact (I1.hok b o z).stay (fun c v _ y => kG c v y) (fun c hc => by rw [upd_ne (nH hc)]; exact hc) (fun c xs hc => by rw [upd_ne (nH hc)]; exact hc)
  · by_cases hb : b = a
    · rw [hb, ge] at z; cases z
    · rw [← gk b hb]; exact z
  · rw [upd_ne hda.symm]
    exact I1.hok.fresh ha
end
/-- a row of an error class's text -/
structure ErrT (P : Program) (K : PySem.W.Frag) (mg : Str → Option Value) (C fI : Addr) (B newId initId : String) (bmB : List Value) (ps : List Str) (params : Arguments) (body : List Stmt) (scope : Scope) : Prop where
  f : ErrF P K mg C fI B newId initId bmB ps params body scope
  s : ErrS ps params scope
section
variable {X : Cx} {C fI : Addr} {B newId initId : String} {bmB : List Value} {params : Arguments} {body : List Stmt} {scope : Scope} {p0 p1 p2 p3 p4 p5 q1 q2 q3 q4 r1 r2 r3 r4 : Pos} {kk : Nat} {txt x y f f2 cn : Str} {pins : List (Addr × Obj)} {σ : L2.St} {H1 : Hp} {s1 : Shared}
theorem errW (I : L2.Inv X pins σ H1 s1) : ErrW X.K X.mg s1.heap := by
  obtain ⟨mb, h1, h2⟩ := I.mod.blt
  exact ⟨I.kIn, I.mod.glob.keeps I.bk, mb, h1.keeps I.bk, (h2 _ (by decide)).trans PyProof.Rows.Boot.«super»⟩
/-- C(x) is made -/
theorem err_make1 {u : Value} {R : Value → Shared → Prop} {E : Value → Shared → Prop} (T : ErrT X.prog X.K X.mg C fI B newId initId bmB ["self", x] params body scope) (hev : SupOk scope txt kk p0 p1 p2 p3 p4) (D : Sto scope x f q1 q2 q3 q4) (hfn : PySem.W.findIn X.K (.ref C) f = some none)
    (hbody : body = [.Expr (supE txt kk p0 p1 p2 p3 p4) p5, .Assign [.Attribute (.Name "self" q1) f q2] (.Name x q3) q4]) (hr : Room 1 X.A) (I : L2.Inv X pins σ H1 s1)
    (h : ∀ (a t d : Addr) (s' : Shared), s1.heap.objs.size ≤ a → s1.heap.objs.size ≤ d → d ≠ a → (∀ b o, s1.heap.get? b = some o → s'.heap.get? b = some o) → s'.heap.get? a = some (erO C t (some d)) → s'.heap.Ns1 d (fun z => if z = f then some u else none) → s'.gens = s1.gens → s'.os = s1.os → R (.ref a) s') :
    wpAny (model X.prog X.w) X.A (call (.ref C) [u]) R E s1 := by
  obtain ⟨nm, q, N, bs, bm, sn, sub, ab, col, dd, k0, k1, k2, k3, k5, hC, hT, hp⟩ := T.f.cls
  have hsz : s1.heap.objs.size ≤ s1.heap.objs.size + 1 := Nat.le_succ _
  have I0 := I
  obtain ⟨hp, g, dr, tk, os⟩ := s1
  have kk' : ∀ b o, hp.get? b = some o → ((hp.push (PySem.W.kdv_tup [u])).push (PySem.HandSPX.excO C hp.objs.size)).get? b = some o := fun b o e => Heap.get?_push_of_some _ (Heap.get?_push_of_some _ e)
  have hget : ((hp.push (PySem.W.kdv_tup [u])).push (PySem.HandSPX.excO C hp.objs.size)).get? (hp.objs.size + 1) = some (erO C hp.objs.size none) := by heap_get
  have W := (errW I).keeps kk'
  have new : ∀ {b : Addr} {o : Obj}, hp.get? b = some o → hp.objs.size + 1 ≠ b := fun {b o} z => Nat.ne_of_gt (Nat.lt_of_lt_of_le (Heap.lt_size z) hsz)
  obtain ⟨og, g1⟩ : ∃ o, hp.get? mainGlobals = some o := by
    obtain ⟨o, _, _, z, _⟩ := (errW I).glob
    exact ⟨o, z⟩
  obtain ⟨ob, g2⟩ : ∃ o, hp.get? builtinsNs = some o := by
    obtain ⟨mb, ⟨o, _, _, z, _⟩, _⟩ := (errW I).blt
    exact ⟨o, z⟩
  refine wpAny_call (PySem.HandSPX.call_own T.f.bf hT (I.kIn _ _ hC) (PySem.W.looks_findIn I.kIn T.f.ini) (fun self => PySem.W.bind_fn I.kIn self T.f.tI) (by rw [sizeLine_eq]; show 1 ≤ _; decide) ?_)
  refine err_init1 (s := ⟨_, g, dr, tk, os⟩) (t0 := hp.objs.size) T.f T.s hev D hfn hbody (hr.make C [u] []).depth W (I.nolimit.keeps kk') ?_ (new g1) (new g2) hget fun s' F => ?_
  · cases z : X.K.lookup (hp.objs.size + 1) with
    | none => rfl
    | some o => exact absurd rfl (new (I.kIn _ _ z))
  · obtain ⟨k, ⟨t, d, h1, h2, h3, h4⟩, hg, ho⟩ := F
    have hlt := Heap.lt_size hget
    exact ⟨rfl, h _ t d s' hsz (Nat.le_trans (Nat.le_of_lt (Nat.lt_of_succ_lt hlt)) h3) h4 (fun b o z => k b o (new z).symm (kk' b o z)) h1 h2 hg ho⟩
/-- C(x, y) is made -/
theorem err_make2 {u u2 : Value} {R : Value → Shared → Prop} {E : Value → Shared → Prop} (T : ErrT X.prog X.K X.mg C fI B newId initId bmB ["self", x, y] params body scope) (hev : SupOk scope txt kk p0 p1 p2 p3 p4) (D : Sto scope x f q1 q2 q3 q4) (D2 : Sto scope y f2 r1 r2 r3 r4) (hfn : PySem.W.findIn X.K (.ref C) f = some none) (hfn2 : PySem.W.findIn X.K (.ref C) f2 = some none)
    (hbody : body = [.Expr (supE txt kk p0 p1 p2 p3 p4) p5, .Assign [.Attribute (.Name "self" q1) f q2] (.Name x q3) q4, .Assign [.Attribute (.Name "self" r1) f2 r2] (.Name y r3) r4]) (hr : Room 1 X.A) (I : L2.Inv X pins σ H1 s1)
    (h : ∀ (a t d : Addr) (s' : Shared), s1.heap.objs.size ≤ a → s1.heap.objs.size ≤ d → d ≠ a → (∀ b o, s1.heap.get? b = some o → s'.heap.get? b = some o) → s'.heap.get? a = some (erO C t (some d)) → s'.heap.Ns1 d (fun z => if z = f2 then some u2 else if z = f then some u else none) → s'.gens = s1.gens → s'.os = s1.os → R (.ref a) s') :
    wpAny (model X.prog X.w) X.A (call (.ref C) [u, u2]) R E s1 := by
  obtain ⟨nm, q, N, bs, bm, sn, sub, ab, col, dd, k0, k1, k2, k3, k5, hC, hT, hp⟩ := T.f.cls
  have hsz : s1.heap.objs.size ≤ s1.heap.objs.size + 1 := Nat.le_succ _
  have I0 := I
  obtain ⟨hp, g, dr, tk, os⟩ := s1
  have kk' : ∀ b o, hp.get? b = some o → ((hp.push (PySem.W.kdv_tup [u, u2])).push (PySem.HandSPX.excO C hp.objs.size)).get? b = some o := fun b o e => Heap.get?_push_of_some _ (Heap.get?_push_of_some _ e)
  have hget : ((hp.push (PySem.W.kdv_tup [u, u2])).push (PySem.HandSPX.excO C hp.objs.size)).get? (hp.objs.size + 1) = some (erO C hp.objs.size none) := by heap_get
  have W := (errW I).keeps kk'
  have new : ∀ {b : Addr} {o : Obj}, hp.get? b = some o → hp.objs.size + 1 ≠ b := fun {b o} z => Nat.ne_of_gt (Nat.lt_of_lt_of_le (Heap.lt_size z) hsz)
  obtain ⟨og, g1⟩ : ∃ o, hp.get? mainGlobals = some o := by
    obtain ⟨o, _, _, z, _⟩ := (errW I).glob
    exact ⟨o, z⟩
  obtain ⟨ob, g2⟩ : ∃ o, hp.get? builtinsNs = some o := by
    obtain ⟨mb, ⟨o, _, _, z, _⟩, _⟩ := (errW I).blt
    exact ⟨o, z⟩
  refine wpAny_call (PySem.HandSPX.call_own T.f.bf hT (I.kIn _ _ hC) (PySem.W.looks_findIn I.kIn T.f.ini) (fun self => PySem.W.bind_fn I.kIn self T.f.tI) (by rw [sizeLine_eq]; show 2 ≤ _; decide) ?_)
  refine err_init2 (s := ⟨_, g, dr, tk, os⟩) (t0 := hp.objs.size) T.f T.s hev D D2 hfn hfn2 hbody (hr.make C [u, u2] []).depth W (I.nolimit.keeps kk') ?_ (new g1) (new g2) hget fun s' F => ?_
  · cases z : X.K.lookup (hp.objs.size + 1) with
    | none => rfl
    | some o => exact absurd rfl (new (I.kIn _ _ z))
  · obtain ⟨k, ⟨t, d, h1, h2, h3, h4⟩, hg, ho⟩ := F
    have hlt := Heap.lt_size hget
    exact ⟨rfl, h _ t d s' hsz (Nat.le_trans (Nat.le_of_lt (Nat.lt_of_succ_lt hlt)) h3) h4 (fun b o z => k b o (new z).symm (kk' b o z)) h1 h2 hg ho⟩
/-- C() is made -/
theorem err_make0 {R : Value → Shared → Prop} {E : Value → Shared → Prop} (T : ErrT X.prog X.K X.mg C fI B newId initId bmB ["self"] params body scope) (hev : SupOk scope txt kk p0 p1 p2 p3 p4)
    (hbody : body = [.Expr (supE txt kk p0 p1 p2 p3 p4) p5]) (hr : Room 1 X.A) (I : L2.Inv X pins σ H1 s1)
    (h : ∀ (a t : Addr) (s' : Shared), s1.heap.objs.size ≤ a → (∀ b o, s1.heap.get? b = some o → s'.heap.get? b = some o) → s'.heap.get? a = some (erO C t none) → s'.gens = s1.gens → s'.os = s1.os → R (.ref a) s') :
    wpAny (model X.prog X.w) X.A (call (.ref C) []) R E s1 := by
  obtain ⟨nm, q, N, bs, bm, sn, sub, ab, col, dd, k0, k1, k2, k3, k5, hC, hT, hp⟩ := T.f.cls
  have hsz : s1.heap.objs.size ≤ s1.heap.objs.size + 1 := Nat.le_succ _
  have I0 := I
  obtain ⟨hp, g, dr, tk, os⟩ := s1
  have kk' : ∀ b o, hp.get? b = some o → ((hp.push (PySem.W.kdv_tup [])).push (PySem.HandSPX.excO C hp.objs.size)).get? b = some o := fun b o e => Heap.get?_push_of_some _ (Heap.get?_push_of_some _ e)
  have hget : ((hp.push (PySem.W.kdv_tup [])).push (PySem.HandSPX.excO C hp.objs.size)).get? (hp.objs.size + 1) = some (erO C hp.objs.size none) := by heap_get
  have W := (errW I).keeps kk'
  have new : ∀ {b : Addr} {o : Obj}, hp.get? b = some o → hp.objs.size + 1 ≠ b := fun {b o} z => Nat.ne_of_gt (Nat.lt_of_lt_of_le (Heap.lt_size z) hsz)
  obtain ⟨og, g1⟩ : ∃ o, hp.get? mainGlobals = some o := by
    obtain ⟨o, _, _, z, _⟩ := (errW I).glob
    exact ⟨o, z⟩
  obtain ⟨ob, g2⟩ : ∃ o, hp.get? builtinsNs = some o := by
    obtain ⟨mb, ⟨o, _, _, z, _⟩, _⟩ := (errW I).blt
    exact ⟨o, z⟩
  refine wpAny_call (PySem.HandSPX.call_own T.f.bf hT (I.kIn _ _ hC) (PySem.W.looks_findIn I.kIn T.f.ini) (fun self => PySem.W.bind_fn I.kIn self T.f.tI) (by rw [sizeLine_eq]; show 0 ≤ _; decide) ?_)
  refine err_init0 (s := ⟨_, g, dr, tk, os⟩) (t0 := hp.objs.size) T.f T.s hev hbody (hr.make C [] []).depth W (I.nolimit.keeps kk') ?_ (new g1) (new g2) hget fun s' t k h1 hg ho => ?_
  · cases z : X.K.lookup (hp.objs.size + 1) with
    | none => rfl
    | some o => exact absurd rfl (new (I.kIn _ _ z))
  · exact ⟨rfl, h _ t s' hsz (fun b o z => k b o (new z).symm (kk' b o z)) h1 hg ho⟩
/-- raise C(x): the error, its dict at d, new -/
def tMk1 (C : Addr) (f : Str) (ta : TA) : L2.St → Hp → XK → Prop := fun σ H Q => ta σ H fun vs H1 => ∃ v, vs = [v] ∧ ∀ d, H1 d = none → Q (.ref C) (some d) (upd H1 d (.xd [(f, v)]))
def tMk2 (C : Addr) (f f2 : Str) (ta : TA) : L2.St → Hp → XK → Prop := fun σ H Q => ta σ H fun vs H1 => ∃ v v2, vs = [v, v2] ∧ ∀ d, H1 d = none → Q (.ref C) (some d) (upd H1 d (.xd [(f2, v2), (f, v)]))
theorem relO1 {f : Str} {v : V} {u : Value} (r : RelV v u) (g : Str) : RelO (([(f, v)] : List (Str × V)).lookup g) (if g = f then some u else none) := relO_put (fs := []) (mA := fun _ => none) r (fun g => True.intro) g
theorem relO2 {f f2 : Str} {v v2 : V} {u u2 : Value} (r : RelV v u) (r2 : RelV v2 u2) (g : Str) : RelO (([(f2, v2), (f, v)] : List (Str × V)).lookup g) (if g = f2 then some u2 else if g = f then some u else none) := relO_put (fs := [(f, v)]) r2 (relO1 r) g
theorem pmk_err1 {e : Expr} {ta : TA} {p pos : Pos} (T : ErrT X.prog X.K X.mg C fI B newId initId bmB ["self", x] params body scope) (hev : SupOk scope txt kk p0 p1 p2 p3 p4) (D : Sto scope x f q1 q2 q3 q4) (hfn : PySem.W.findIn X.K (.ref C) f = some none)
    (hbody : body = [.Expr (supE txt kk p0 p1 p2 p3 p4) p5, .Assign [.Attribute (.Name "self" q1) f q2] (.Name x q3) q4]) (hr : Room 1 X.A) (hg : Gl X cn) (hm : X.mg cn = some (.ref C)) (ha : PA X [e] ta)
    (hdb : (cn == ("__debug__" : Str)) = false := by decide) (he : starEach [e] X.env = (false, eval e X.env) :: starEach [] X.env := by rfl) : PMk X (.Call (.Name cn p) [e] [] pos) (tMk1 C f ta) := by
  intro pins s σ H Q I h
  refine wpAny_Call_Name_kw (ld_glob I hg hm ?_ hdb)
  refine PySem.W.callWith_K (h₀ := X.base) I.ok.mod.kin T.f.kC (thn (ha.run pos pins s σ H _ I h) fun us s1 ⟨vs, H1, I1, r1, v, ev, q1⟩ => ⟨I1.kIn, ?_⟩) he rfl
  subst ev
  cases r1 with
  | @cons _ u _ ur ru rr =>
    cases rr
    show wpAny _ _ (call (.ref C) [u]) _ _ _
    refine err_make1 T hev D hfn hbody hr I1 fun a t d s' z1 z2 z3 z4 z5 z6 z7 z8 => ?_
    obtain ⟨G, J, kG, ge, na⟩ := err_inv I1 z1 z2 z3 z4 z6 (relO1 ru)
    exact ⟨a, _, _, _, _, .ref C, some d, rfl, J, kG, ge, z5, ⟨rfl, rfl⟩, rfl, rfl, na, z8, by rw [z7]; exact I1.bare, raises_own T.f.exC T.f.tyC, q1 d (I1.hok.fresh z2)⟩
theorem pmk_err2 {e e2 : Expr} {ta : TA} {p pos : Pos} (T : ErrT X.prog X.K X.mg C fI B newId initId bmB ["self", x, y] params body scope) (hev : SupOk scope txt kk p0 p1 p2 p3 p4) (D : Sto scope x f q1 q2 q3 q4) (D2 : Sto scope y f2 r1 r2 r3 r4) (hfn : PySem.W.findIn X.K (.ref C) f = some none) (hfn2 : PySem.W.findIn X.K (.ref C) f2 = some none)
    (hbody : body = [.Expr (supE txt kk p0 p1 p2 p3 p4) p5, .Assign [.Attribute (.Name "self" q1) f q2] (.Name x q3) q4, .Assign [.Attribute (.Name "self" r1) f2 r2] (.Name y r3) r4]) (hr : Room 1 X.A) (hg : Gl X cn) (hm : X.mg cn = some (.ref C)) (ha : PA X [e, e2] ta)
    (hdb : (cn == ("__debug__" : Str)) = false := by decide) (he : starEach [e, e2] X.env = (false, eval e X.env) :: starEach [e2] X.env := by rfl) (hpl : (backTo pos (starEach [e2] X.env)).any (·.1) = false := by rfl) : PMk X (.Call (.Name cn p) [e, e2] [] pos) (tMk2 C f f2 ta) := by
  intro pins s σ H Q I h
  refine wpAny_Call_Name_kw (ld_glob I hg hm ?_ hdb)
  refine PySem.W.callWith_K (h₀ := X.base) I.ok.mod.kin T.f.kC (thn (ha.run pos pins s σ H _ I h) fun us s1 ⟨vs, H1, I1, r1, v, v2, ev, q1⟩ => ⟨I1.kIn, ?_⟩) he hpl
  subst ev
  cases r1 with
  | @cons _ u _ ur ru rr =>
    cases rr with
    | @cons _ u2 _ ur2 ru2 rr =>
      cases rr
      show wpAny _ _ (call (.ref C) [u, u2]) _ _ _
      refine err_make2 T hev D D2 hfn hfn2 hbody hr I1 fun a t d s' z1 z2 z3 z4 z5 z6 z7 z8 => ?_
      obtain ⟨G, J, kG, ge, na⟩ := err_inv I1 z1 z2 z3 z4 z6 (relO2 ru ru2)
      exact ⟨a, _, _, _, _, .ref C, some d, rfl, J, kG, ge, z5, ⟨rfl, rfl⟩, rfl, rfl, na, z8, by rw [z7]; exact I1.bare, raises_own T.f.exC T.f.tyC, q1 d (I1.hok.fresh z2)⟩
end
end L3
namespace L3
open PySem PySem.Spec PyProof.Rows L2
open MeetsSeq MeetsSeq2 MeetsSeq3 SeqRoads2
open AutoSeq1 (wpAny_loadPart')
/-- x == y answers b, and nothing changes -/
def EqStep (X : Cx) (H : Hp) (x y : V) (b : Bool) : Prop := ∀ (pins : List (Addr × Obj)) (s : Shared) (σ : L2.St) (H' : Hp) (u v : Value) (Q : Bool → Shared → Prop) (E' : Value → Shared → Prop), L2.Inv X pins σ H' s → Same H H' → RelV x u → RelV y v →
  (∀ H'' s', L2.Inv X pins σ H'' s' → Same H' H'' → Q b s') → wpAny (model X.prog X.w) X.A.in1 (eqBool u v) Q E' s
section
variable {X : Cx} {C f : Addr} {fd : FuncData} {k : Nat} {sp : Sp} {y : Str}
theorem EqStep.self {H : Hp} {a : Addr} : EqStep X H (.ref a) (.ref a) true := by
  intro pins s σ H' u v Q E' I sm r1 r2 h
  cases r1
  cases r2
  unfold eqBool
  refine wpAny_holding ?_
  exact wpAny_ite_split (fun _ => wpAny_bind (wpAny_rule (wpAny_pure (h H' s I (Same.refl _))))) (fun z => (z (by simp)).elim)
theorem EqStep.own {H : Hp} {a b : Addr} {z : Bool} (F : FnOkG X.prog X.w X.K X.mg X.base CX0 k f fd ["self", y] sp) (hr : Room (k + 1) X.A) (hG : X.A.guards = some []) (hb : L2.Binds X.K fd ["self", y] []) (m : Meth X.K C "__eq__" f) (hne : a ≠ b)
    (hn : PySem.W.notFirst X.K C (.ref C) = true) (h : ∀ H', Same H H' → (∃ dx fs, H' a = some (.ins C dx fs)) ∧ (∃ dx fs, H' b = some (.ins C dx fs)) ∧ sp [.ref a, .ref b] H' (fun v H'' => v = .bl z ∧ Same H' H'') E0) : EqStep X H (.ref a) (.ref b) z := by
  intro pins s σ H' u v Q E' I sm r1 r2 hQ
  cases r1
  cases r2
  obtain ⟨⟨dx, fs, ha⟩, ⟨dy, gs, hb'⟩, h⟩ := h H' sm
  obtain ⟨mA, O, _⟩ := ins_get I.hok ha
  obtain ⟨od, J, _⟩ := O.look
  obtain ⟨mB, O2, _⟩ := ins_get I.hok hb'
  obtain ⟨od2, J2, _⟩ := O2.look
  obtain ⟨mm, FF⟩ := I.fr
  unfold eqBool
  refine wpAny_holding ?_
  refine wpAny_ite_split (fun hab => absurd (by have := eq_of_beq hab; injection this) hne) (fun _ => ?_)
  refine wpAny_bind ?_
  have hu := hr.units
  refine PySem.W.cmp_K (op := .Eq) (by show X.A.units + 1 < cLine; omega) FF I.ok.mod.kin J J2.type hn m.at_ m.fn ?_
  refine run_own (vs := [.ref a, .ref b]) (us := [.ref a, .ref b]) F hr hG hb I (.cons rfl (.cons rfl .nil)) h fun w s' hq => ?_
  obtain ⟨v, H2, I2, rv, rfl, sm2⟩ := hq
  cases rv
  exact (show wpAny _ _ (truthy (.bool z)) _ _ _ from wpAny_truthy_bool (hQ H2 s' I2 sm2))
end
theorem rel_at {xs : List V} {us : List Value} (r : Vals xs us) : ∀ {i : Nat} {x : V} {u : Value}, xs[i]? = some x → us[i]? = some u → RelV x u := by
  induction r with
  | nil => intro i x u h; simp at h
  | cons a _ ih =>
    intro i x u h1 h2
    cases i with
    | zero => simp at h1 h2; subst h1 h2; exact a
    | succ i => simp at h1 h2; exact ih h1 h2
section
variable {X : Cx} {pins : List (Addr × Obj)} {σ : L2.St} {H : Hp} {l r : Addr} {L M : List V} {e : Nat → Bool}
theorem eqL_loop (hl : ∀ H', Same H H' → SqL X.K H' l L) (hr : ∀ H', Same H H' → SqL X.K H' r M) (hz : L.length = M.length) (he : ∀ i x y, L[i]? = some x → M[i]? = some y → EqStep X H x y (e i)) {R : Result → Shared → Prop} (hR : ∀ H' s', L2.Inv X pins σ H' s' → Same H H' → R (.ok (.ret (.bool ((List.range L.length).all e)))) s') :
    ∀ (k i : Nat) (s : Shared) (H' : Hp), L.length - i = k → i ≤ L.length → (List.range i).all e = true → L2.Inv X pins σ H' s → Same H H' →
    wpAny (model X.prog X.w) X.A.in1 (Builtin.«list.__eq__.loop» ⟨[.ref l, .ref r, rawInt i, rawInt 2], []⟩) (fun fin s' => match fin with | .done f => R (.ok f) s' | .again c' => c'.quiet = true ∧ codeAny (model X.prog X.w) X.A c' R s') (fun ex s' => R (.error ex) s') s := by
  intro k
  induction k with
  | zero =>
    intro i s H' hk hi hall I sm
    have hie : i = L.length := by omega
    obtain ⟨its, r1, pl, hz1⟩ := I.list (hl H' sm)
    obtain ⟨jts, r2, pm, hz2⟩ := I.list (hr H' sm)
    have n1 := r1.length
    have n2 := r2.length
    obtain ⟨⟨c1, d1, da1, s1⟩, ho1, hc1, m1, hd1⟩ := id pl.isList
    obtain ⟨⟨c2, d2, da2, s2⟩, ho2, hc2, m2, hd2⟩ := id pm.isList
    simp only at hc1 hd1 hc2 hd2
    subst hc1 hd1 hc2 hd2
    have I0 := I
    obtain ⟨hp, g, d, tk, os⟩ := s
    have a1 : its.toArray[((i : Nat) : Int).toNat]? = none := by simp; omega
    have a2 : jts.toArray[((i : Nat) : Int).toNat]? = none := by simp; omega
    wp_walk using wpAny_loadPart' ho1, wpAny_loadPart' ho2
    rw [a1, a2]
    wp_walk using wpAny_loadPart' ho1, wpAny_loadPart' ho2
    show R (.ok (.ret (.bool (its.toArray.size == jts.toArray.size)))) _
    have q := hR H' _ I0 sm
    rw [← hie, hall] at q
    rw [show (its.toArray.size == jts.toArray.size) = true by simp; omega]
    exact q
  | succ k ih =>
    intro i s H' hk hi hall I sm
    have hlt : i < L.length := by omega
    obtain ⟨its, r1, pl, hz1⟩ := I.list (hl H' sm)
    obtain ⟨jts, r2, pm, hz2⟩ := I.list (hr H' sm)
    have n1 := r1.length
    have n2 := r2.length
    obtain ⟨⟨c1, d1, da1, s1⟩, ho1, hc1, m1, hd1⟩ := id pl.isList
    obtain ⟨⟨c2, d2, da2, s2⟩, ho2, hc2, m2, hd2⟩ := id pm.isList
    simp only at hc1 hd1 hc2 hd2
    subst hc1 hd1 hc2 hd2
    have hi1 : i < its.length := by omega
    have hi2 : i < jts.length := by omega
    have a1 : its.toArray[((i : Nat) : Int).toNat]? = some its[i] := by simp [hi1]
    have a2 : jts.toArray[((i : Nat) : Int).toNat]? = some jts[i] := by simp [hi2]
    have I0 := I
    obtain ⟨hp, g, d, tk, os⟩ := s
    wp_walk using wpAny_loadPart' ho1, wpAny_loadPart' ho2
    rw [a1, a2]
    obtain ⟨x, hx⟩ : ∃ x, L[i]? = some x := ⟨L[i], List.getElem?_eq_getElem hlt⟩
    obtain ⟨y, hy⟩ : ∃ y, M[i]? = some y := ⟨M[i]'(by omega), List.getElem?_eq_getElem (by omega)⟩
    have rx := rel_at r1 hx (List.getElem?_eq_getElem hi1)
    have ry := rel_at r2 hy (List.getElem?_eq_getElem hi2)
    refine wpAny_bind (he i x y hx hy pins _ σ H' _ _ _ _ I0 sm rx ry fun H2 s2 I2 sm2 => ?_)
    have sm' := sm.trans sm2
    have hc : ((i : Int) + 1) = ((i + 1 : Nat) : Int) := by push_cast; rfl
    cases hb : e i with
    | true =>
      obtain ⟨hp2, g2, d2, tk2, os2⟩ := s2
      wp_walk
      rw [hc]
      refine ⟨plainId_quiet plain_eq_loop _, codeAny_builtin entry_eq_loop ?_⟩
      rw [Around.under_plainId plain_eq_loop _]
      exact ih (i + 1) _ H2 (by omega) hlt (by rw [List.range_succ, List.all_append, hall]; simp [hb]) I2 sm'
    | false =>
      obtain ⟨its', r1', pl', _⟩ := I2.list (hl H2 sm')
      obtain ⟨jts', r2', pm', _⟩ := I2.list (hr H2 sm')
      have n1' := r1'.length
      have n2' := r2'.length
      obtain ⟨⟨c1', d1', da1', s1'⟩, ho1', hc1', m1', hd1'⟩ := id pl'.isList
      obtain ⟨⟨c2', d2', da2', s2'⟩, ho2', hc2', m2', hd2'⟩ := id pm'.isList
      simp only at hc1' hd1' hc2' hd2'
      subst hc1' hd1' hc2' hd2'
      have hi1' : i < its'.length := by omega
      have hi2' : i < jts'.length := by omega
      have b1 : its'.toArray[((i : Nat) : Int).toNat]? = some its'[i] := by simp [hi1']
      have b2 : jts'.toArray[((i : Nat) : Int).toNat]? = some jts'[i] := by simp [hi2']
      have q := hR H2 _ I2 sm'
      rw [show (List.range L.length).all e = false from List.all_eq_false.mpr ⟨i, List.mem_range.mpr hlt, by rw [hb]; decide⟩] at q
      obtain ⟨hp2, g2, d2, tk2, os2⟩ := s2
      wp_walk using wpAny_loadPart' ho1', wpAny_loadPart' ho2'
      rw [b1, b2]
      wp_walk
      exact q
/-- list == list -/
theorem op_eqL (hu : X.A.units + 64 < cLine) : OpR X (compareOp .Eq) (fun x y H Q => ∃ (l r : Addr) (L M : List V) (e : Nat → Bool), x = .ref l ∧ y = .ref r ∧ (∀ H', Same H H' → SqL X.K H' l L) ∧ (∀ H', Same H H' → SqL X.K H' r M) ∧ L.length = M.length ∧
    (∀ i x y, L[i]? = some x → M[i]? = some y → EqStep X H x y (e i)) ∧ ∀ H', Same H H' → Q (.bl ((List.range L.length).all e)) H') := by
  intro pins s σ H x y v u Q I rx ry h
  obtain ⟨l, r, L, M, e, rfl, rfl, hl, hr, hz, he, q⟩ := h
  cases rx
  cases ry
  obtain ⟨its, r1, pl, hz1⟩ := I.list (hl H (Same.refl _))
  obtain ⟨jts, r2, pm, hz2⟩ := I.list (hr H (Same.refl _))
  have n1 := r1.length
  have n2 := r2.length
  obtain ⟨⟨c1, d1, da1, s1⟩, ho1, hc1, m1, hd1⟩ := id pl.isList
  obtain ⟨⟨c2, d2, da2, s2⟩, ho2, hc2, m2, hd2⟩ := id pm.isList
  simp only at hc1 hd1 hc2 hd2
  subst hc1 hd1 hc2 hd2
  show wpAny _ _ (richCompare .Eq (.ref l) (.ref r)) _ _ _
  refine wpAny_richCompare_same_room (T := "list") (op := .Eq) ⟨_, ho1, rfl⟩ ⟨_, ho2, rfl⟩ F.slot_list_eq ?_ (by omega)
  refine wpAny_call (codeAny_call_builtin F.slot_list_eq.plain F.entry_list_eq (F.slot_list_eq.check _ _ _ _ _ _ _ _ ⟨_, ho1, rfl⟩ (F.args_list_eq_2 _ _) ?_))
  have I0 := I
  obtain ⟨hp, g, d, tk, os⟩ := s
  have f3 := AutoSeq1.sub_list_list
  have hne : ¬ (its.toArray.size != jts.toArray.size) = true := by simp; omega
  wp_walk using wpAny_loadPart' ho1, wpAny_loadPart' ho2
  refine wpAny_ite_split (fun z => absurd z hne) (fun _ => wpAny_pure ?_)
  refine ⟨plainId_quiet plain_eq_loop _, codeAny_builtin entry_eq_loop ?_⟩
  rw [Around.under_plainId plain_eq_loop _]
  have key := eqL_loop (H := H) (pins := pins) (σ := σ) hl hr hz he (R := fun r s' => match r with | .ok (.ret v) => v ≠ .notImplemented ∧ EP X pins σ Q v s' | .ok _ => False | .error e => X.xe e s') (fun H' s' I' sm => ⟨(fun z => by cases z), .bl _, H', I', rfl, q H' sm⟩) _ 0 _ H rfl (Nat.zero_le _) rfl I0 (Same.refl _)
  exact key
theorem neL_loop (hl : ∀ H', Same H H' → SqL X.K H' l L) (hr : ∀ H', Same H H' → SqL X.K H' r M) (hz : L.length = M.length) (he : ∀ i x y, L[i]? = some x → M[i]? = some y → EqStep X H x y (e i)) {R : Result → Shared → Prop} (hR : ∀ H' s', L2.Inv X pins σ H' s' → Same H H' → R (.ok (.ret (.bool (!(List.range L.length).all e)))) s') :
    ∀ (k i : Nat) (s : Shared) (H' : Hp), L.length - i = k → i ≤ L.length → (List.range i).all e = true → L2.Inv X pins σ H' s → Same H H' →
    wpAny (model X.prog X.w) X.A.in1 (Builtin.«list.__eq__.loop» ⟨[.ref l, .ref r, rawInt i, rawInt 3], []⟩) (fun fin s' => match fin with | .done f => R (.ok f) s' | .again c' => c'.quiet = true ∧ codeAny (model X.prog X.w) X.A c' R s') (fun ex s' => R (.error ex) s') s := by
  intro k
  induction k with
  | zero =>
    intro i s H' hk hi hall I sm
    have hie : i = L.length := by omega
    obtain ⟨its, r1, pl, hz1⟩ := I.list (hl H' sm)
    obtain ⟨jts, r2, pm, hz2⟩ := I.list (hr H' sm)
    have n1 := r1.length
    have n2 := r2.length
    obtain ⟨⟨c1, d1, da1, s1⟩, ho1, hc1, m1, hd1⟩ := id pl.isList
    obtain ⟨⟨c2, d2, da2, s2⟩, ho2, hc2, m2, hd2⟩ := id pm.isList
    simp only at hc1 hd1 hc2 hd2
    subst hc1 hd1 hc2 hd2
    have I0 := I
    obtain ⟨hp, g, d, tk, os⟩ := s
    have a1 : its.toArray[((i : Nat) : Int).toNat]? = none := by simp; omega
    have a2 : jts.toArray[((i : Nat) : Int).toNat]? = none := by simp; omega
    wp_walk using wpAny_loadPart' ho1, wpAny_loadPart' ho2
    rw [a1, a2]
    wp_walk using wpAny_loadPart' ho1, wpAny_loadPart' ho2
    show R (.ok (.ret (.bool (its.toArray.size != jts.toArray.size)))) _
    have q := hR H' _ I0 sm
    rw [← hie, hall] at q
    rw [show (its.toArray.size != jts.toArray.size) = false by simp; omega]
    exact q
  | succ k ih =>
    intro i s H' hk hi hall I sm
    have hlt : i < L.length := by omega
    obtain ⟨its, r1, pl, hz1⟩ := I.list (hl H' sm)
    obtain ⟨jts, r2, pm, hz2⟩ := I.list (hr H' sm)
    have n1 := r1.length
    have n2 := r2.length
    obtain ⟨⟨c1, d1, da1, s1⟩, ho1, hc1, m1, hd1⟩ := id pl.isList
    obtain ⟨⟨c2, d2, da2, s2⟩, ho2, hc2, m2, hd2⟩ := id pm.isList
    simp only at hc1 hd1 hc2 hd2
    subst hc1 hd1 hc2 hd2
    have hi1 : i < its.length := by omega
    have hi2 : i < jts.length := by omega
    have a1 : its.toArray[((i : Nat) : Int).toNat]? = some its[i] := by simp [hi1]
    have a2 : jts.toArray[((i : Nat) : Int).toNat]? = some jts[i] := by simp [hi2]
    have I0 := I
    obtain ⟨hp, g, d, tk, os⟩ := s
    wp_walk using wpAny_loadPart' ho1, wpAny_loadPart' ho2
    rw [a1, a2]
    obtain ⟨x, hx⟩ : ∃ x, L[i]? = some x := ⟨L[i], List.getElem?_eq_getElem hlt⟩
    obtain ⟨y, hy⟩ : ∃ y, M[i]? = some y := ⟨M[i]'(by omega), List.getElem?_eq_getElem (by omega)⟩
    have rx := rel_at r1 hx (List.getElem?_eq_getElem hi1)
    have ry := rel_at r2 hy (List.getElem?_eq_getElem hi2)
    refine wpAny_bind (he i x y hx hy pins _ σ H' _ _ _ _ I0 sm rx ry fun H2 s2 I2 sm2 => ?_)
    have sm' := sm.trans sm2
    have hc : ((i : Int) + 1) = ((i + 1 : Nat) : Int) := by push_cast; rfl
    cases hb : e i with
    | true =>
      obtain ⟨hp2, g2, d2, tk2, os2⟩ := s2
      wp_walk
      rw [hc]
      refine ⟨plainId_quiet plain_eq_loop _, codeAny_builtin entry_eq_loop ?_⟩
      rw [Around.under_plainId plain_eq_loop _]
      exact ih (i + 1) _ H2 (by omega) hlt (by rw [List.range_succ, List.all_append, hall]; simp [hb]) I2 sm'
    | false =>
      obtain ⟨its', r1', pl', _⟩ := I2.list (hl H2 sm')
      obtain ⟨jts', r2', pm', _⟩ := I2.list (hr H2 sm')
      have n1' := r1'.length
      have n2' := r2'.length
      obtain ⟨⟨c1', d1', da1', s1'⟩, ho1', hc1', m1', hd1'⟩ := id pl'.isList
      obtain ⟨⟨c2', d2', da2', s2'⟩, ho2', hc2', m2', hd2'⟩ := id pm'.isList
      simp only at hc1' hd1' hc2' hd2'
      subst hc1' hd1' hc2' hd2'
      have hi1' : i < its'.length := by omega
      have hi2' : i < jts'.length := by omega
      have b1 : its'.toArray[((i : Nat) : Int).toNat]? = some its'[i] := by simp [hi1']
      have b2 : jts'.toArray[((i : Nat) : Int).toNat]? = some jts'[i] := by simp [hi2']
      have q := hR H2 _ I2 sm'
      rw [show (List.range L.length).all e = false from List.all_eq_false.mpr ⟨i, List.mem_range.mpr hlt, by rw [hb]; decide⟩] at q
      obtain ⟨hp2, g2, d2, tk2, os2⟩ := s2
      wp_walk using wpAny_loadPart' ho1', wpAny_loadPart' ho2'
      rw [b1, b2]
      wp_walk
      exact q
/-- list != list -/
theorem op_neL (hu : X.A.units + 64 < cLine) : OpR X (compareOp .NotEq) (fun x y H Q => ∃ (l r : Addr) (L M : List V) (e : Nat → Bool), x = .ref l ∧ y = .ref r ∧ (∀ H', Same H H' → SqL X.K H' l L) ∧ (∀ H', Same H H' → SqL X.K H' r M) ∧ L.length = M.length ∧
    (∀ i x y, L[i]? = some x → M[i]? = some y → EqStep X H x y (e i)) ∧ ∀ H', Same H H' → Q (.bl (!(List.range L.length).all e)) H') := by
  intro pins s σ H x y v u Q I rx ry h
  obtain ⟨l, r, L, M, e, rfl, rfl, hl, hr, hz, he, q⟩ := h
  cases rx
  cases ry
  obtain ⟨its, r1, pl, hz1⟩ := I.list (hl H (Same.refl _))
  obtain ⟨jts, r2, pm, hz2⟩ := I.list (hr H (Same.refl _))
  have n1 := r1.length
  have n2 := r2.length
  obtain ⟨⟨c1, d1, da1, s1⟩, ho1, hc1, m1, hd1⟩ := id pl.isList
  obtain ⟨⟨c2, d2, da2, s2⟩, ho2, hc2, m2, hd2⟩ := id pm.isList
  simp only at hc1 hd1 hc2 hd2
  subst hc1 hd1 hc2 hd2
  show wpAny _ _ (richCompare .NotEq (.ref l) (.ref r)) _ _ _
  refine wpAny_richCompare_same_room (T := "list") (op := .NotEq) ⟨_, ho1, rfl⟩ ⟨_, ho2, rfl⟩ F.slot_list_ne ?_ (by omega)
  refine wpAny_call (codeAny_call_builtin F.slot_list_ne.plain F.entry_list_ne (F.slot_list_ne.check _ _ _ _ _ _ _ _ ⟨_, ho1, rfl⟩ (F.args_list_ne_2 _ _) ?_))
  have I0 := I
  obtain ⟨hp, g, d, tk, os⟩ := s
  have f3 := AutoSeq1.sub_list_list
  have hne : ¬ (its.toArray.size != jts.toArray.size) = true := by simp; omega
  wp_walk using wpAny_loadPart' ho1, wpAny_loadPart' ho2
  refine wpAny_ite_split (fun z => absurd z hne) (fun _ => wpAny_pure ?_)
  refine ⟨plainId_quiet plain_eq_loop _, codeAny_builtin entry_eq_loop ?_⟩
  rw [Around.under_plainId plain_eq_loop _]
  have key := neL_loop (H := H) (pins := pins) (σ := σ) hl hr hz he (R := fun r s' => match r with | .ok (.ret v) => v ≠ .notImplemented ∧ EP X pins σ Q v s' | .ok _ => False | .error e => X.xe e s') (fun H' s' I' sm => ⟨(fun z => by cases z), .bl _, H', I', rfl, q H' sm⟩) _ 0 _ H rfl (Nat.zero_le _) rfl I0 (Same.refl _)
  exact key
end
end L3
namespace L3
open PySem PySem.Spec PyProof.Rows L2
/-- each list whose repr is under way holds an own object -/
def GOk (H : Hp) (g : List Code) : Prop := ∀ id v rest kw, Code.builtin id ⟨v :: rest, kw⟩ ∈ g → ∃ (l m C dx : Addr) (xs : List V) (fs : List (Str × V)), v = .ref l ∧ H l = some (.lst xs) ∧ V.ref m ∈ xs ∧ H m = some (.ins C dx fs)
theorem GOk.nil (H : Hp) : GOk H [] := fun _ _ _ _ h => nomatch h
theorem GOk.same {H H' : Hp} {g : List Code} (h : GOk H g) (s : Same H H') : GOk H' g := fun id v rest kw hm => by
  obtain ⟨l, m, C, dx, xs, fs, h1, h2, h3, h4⟩ := h id v rest kw hm
  exact ⟨l, m, C, dx, xs, fs, h1, s _ _ h2, h3, s _ _ h4⟩
theorem GOk.cons {H : Hp} {g : List Code} {id : String} {rest : List Value} {kw : List (Str × Value)} {l m C dx : Addr} {xs : List V} {fs : List (Str × V)} (h : GOk H g) (h2 : H l = some (.lst xs)) (h3 : V.ref m ∈ xs) (h4 : H m = some (.ins C dx fs)) : GOk H (.builtin id ⟨.ref l :: rest, kw⟩ :: g) := fun id' v' rest' kw' hm => by
  rcases List.mem_cons.mp hm with e | hm
  · cases e
    exact ⟨l, m, C, dx, xs, fs, rfl, h2, h3, h4⟩
  · exact h _ _ _ _ hm
theorem reads_mem {h : Heap} : ∀ {vs : List Value} {ds : List PyData} {as : List Addr}, ReadsAll h vs ds as → ∀ v ∈ vs, ∃ d as', Reads h v d as'
  | _, _, _, .nil, v, hv => nomatch hv
  | _, _, _, .cons r rs, v, hv => by
    rcases List.mem_cons.mp hv with rfl | hv
    · exact ⟨_, _, r⟩
    · exact reads_mem rs v hv
theorem vals_mem : ∀ {xs : List V} {us : List Value}, Vals xs us → ∀ {m : Addr}, V.ref m ∈ xs → Value.ref m ∈ us
  | _, _, .nil, m, h => nomatch h
  | _, _, .cons r t, m, h => by
    rcases List.mem_cons.mp h with e | h
    · subst e
      cases r
      exact List.mem_cons_self
    · exact List.mem_cons_of_mem _ (vals_mem t h)
section
variable {X : Cx} {pins : List (Addr × Obj)} {σ : L2.St} {H : Hp} {s : Shared} {g : List Code}
/-- what can be read as data is none of these lists -/
theorem gok_clear (I : L2.Inv X pins σ H s) (hg : GOk H g) {b : Addr} {d : PyData} {as : List Addr} (r : Reads s.heap (.ref b) d as) : Clear g b := fun id v rest kw hm z => by
  obtain ⟨l, m, C, dx, xs, fs, h1, h2, h3, h4⟩ := hg id v rest kw hm
  rw [h1] at z
  obtain rfl := Value.ref.inj z
  obtain ⟨_, its, n, rv, hl⟩ := I.hok _ _ h2
  obtain ⟨mA, O, _⟩ := ins_get I.hok h4
  have hm' := vals_mem rv h3
  have hmo : s.heap.get? m = some (PySem.W.instObj C dx) := by
    obtain ⟨_, _, _, q, _⟩ := I.hok _ _ h4
    exact q
  cases r with
  | list q1 q2 q3 q4 =>
    rw [hl] at q1
    cases q1
    have e3 : Data.seq its.toArray n = Data.seq _ _ := q3
    cases e3
    obtain ⟨d', as', r'⟩ := reads_mem q4 (.ref m) (by simpa using hm')
    cases r' with
    | list w1 w2 _ _ => rw [hmo] at w1; cases w1; cases w2
    | tuple w1 w2 _ _ => rw [hmo] at w1; cases w1; cases w2
    | dict w1 w2 _ _ _ => rw [hmo] at w1; cases w1; cases w2
  | tuple q1 q2 q3 q4 => rw [hl] at q1; cases q1; exact absurd (Value.type.inj q2) (by decide)
  | dict q1 q2 q3 q4 q5 => rw [hl] at q1; cases q1; exact absurd (Value.type.inj q2) (by decide)
end
/-- an around that stands under X.A, with the guards g -/
structure AIn (X : Cx) (k : Nat) (g : List Code) (A : Around) : Prop where
  room : Room k A
  gd : A.guards = some g
  env : ∀ {pins : List (Addr × Obj)} {σ : L2.St} {H : Hp} {s : Shared}, L2.Inv X pins σ H s → Env0 X.prog X.w X.K X.mg X.base A X.stack s H
theorem AIn.base {X : Cx} {k : Nat} {g : List Code} (hr : Room k X.A) (hg : X.A.guards = some g) : AIn X k g X.A := ⟨hr, hg, fun I => I.env0⟩
theorem AIn.in1 {X : Cx} {k : Nat} {g : List Code} {A : Around} (h : AIn X (k + 1) g A) : AIn X k g A.in1 := ⟨h.room.in1, h.gd, fun I => (h.env I).in1⟩
theorem AIn.mono {X : Cx} {j k : Nat} {g : List Code} {A : Around} (h : AIn X k g A) (hj : j ≤ k) : AIn X j g A := ⟨h.room.mono hj, h.gd, h.env⟩
theorem depth_list_loop (A : Around) (args : Args) : (A.under (.builtin "list.__repr__.loop" args)).depth = A.depth + 1 := by
  first | rfl | simp [Around.under, Code.weight, Code.isCreation, Code.isGuard, Code.isCaller, Code.frames, Code.isFrame, guardIds]
theorem AIn.loop {X : Cx} {k : Nat} {g : List Code} {A : Around} (h : AIn X (k + 1) g A) (args : Args) : AIn X k (.builtin "list.__repr__.loop" args :: g) (A.under (.builtin "list.__repr__.loop" args)) := by
  refine ⟨⟨h.room.hd, ?_, ?_⟩, guards_under_guard (isGuard_list_loop _) h.gd, fun I => ?_⟩
  · rw [depth_list_loop]; have := h.room.dp; omega
  · rw [units_under_list_loop]; have := h.room.un; omega
  · have e := h.env I
    exact ⟨by first | exact e.frames | (simpa [Around.under, Code.envs, Code.isFrame, pushEnvs] using e.frames), e.mod, e.bs, e.bsz, e.funs, e.frf, e.hok, e.bare⟩
/-- repr(x) is t, and nothing changes -/
def ReprStep (X : Cx) (k : Nat) (H : Hp) (x : V) (t : Str) : Prop := ∀ (base : Nat) (A : Around) (g : List Code) (pins : List (Addr × Obj)) (s : Shared) (σ : L2.St) (H' : Hp) (u : Value) (Q : Str → Shared → Prop) (E' : Value → Shared → Prop), base + t.length ≤ sizeLine → AIn X k g A → GOk H' g → L2.Inv X pins σ H' s → Same H H' → RelV x u →
  (∀ H'' s', L2.Inv X pins σ H'' s' → Same H' H'' → Q t s') → wpAny (model X.prog X.w) A (pyReprUnder base u) Q E' s
section
variable {X : Cx} {k : Nat} {H : Hp}
theorem ReprStep.data {x : V} {d : PyData} (hd : Dp X.K H x d) (hs : d.showable = true) (hz : d.shown.length ≤ sizeLine) (hp : d.depth ≤ 50) : ReprStep X k H x d.shown := by
  intro base A g pins s σ H' u Q E' hb hA hg I sm rx hQ
  have hd' := Dp.same sm hd
  obtain ⟨as, r⟩ := Dp.reads I d x u hd' rx
  obtain ⟨bs, hbs, hk⟩ := ReprK.of_reads (prog := X.prog) (w := X.w) r hs (PyData.noDict_hsm (dp_noDict (K := X.K) (H := H') hd')) hz
  have hu := hA.room.units
  refine hk base hb A g E' s Q hA.gd (fun b hbm => ?_) (by omega) (fun _ _ e => e) fun h' tk kk => hQ H' _ (I.kept kk) (Same.refl _)
  obtain ⟨d', as', r', _⟩ := hbs b hbm
  exact gok_clear I hg r'
end
/-- a def that is called while reprs are under way -/
structure FnOkH (P : Program) (w : World) (K : PySem.W.Frag) (mg : Str → Option Value) (base : Heap) (CX : CXT) (k : Nat) (f : Addr) (fd : FuncData) (ps : List Str) (sp : Sp) : Prop where
  len : ∀ vs H Q E, sp vs H Q E → vs.length = ps.length
  run : ∀ (A : Around) (outer : List Env) (s : Shared) (H : Hp) (args : Args) (us : List Value) (vs : List V) (Q : VK) (E : XK) (g : List Code), Room k A → A.guards = some g → GOk H g → Env0 P w K mg base A outer s H → BindsTo s fd args (ps.zip us) → Vals vs us → sp vs H Q E →
    codeAny (model P w) A (.call (.ref f) args) (CR CX outer P w H s Q E) s
theorem FnOkH.toG {P : Program} {w : World} {K : PySem.W.Frag} {mg : Str → Option Value} {base : Heap} {CX : CXT} {k : Nat} {f : Addr} {fd : FuncData} {ps : List Str} {sp : Sp} (F : FnOkH P w K mg base CX k f fd ps sp) : FnOkG P w K mg base CX k f fd ps sp :=
  ⟨F.len, fun A outer s H args us vs Q E hr hg => F.run A outer s H args us vs Q E [] hr hg (GOk.nil H)⟩
theorem okH {P : Program} {w : World} {K : PySem.W.Frag} {mg : Str → Option Value} {base : Heap} {x qual : Str} {st : Stmt} {f : Addr} {fd : FuncData} {N ps : List Str} {k : Nat} {sp : Sp} (F : Fun K x qual st f fd) (S : FnScope N ps (defScope st)) (len : ∀ vs H Q E, sp vs H Q E → vs.length = ps.length)
    (hbody : ∀ (cdv : Value) (A : Around) (outer : List Env) (s : Shared) (H : Hp) (vs : List V) (Q : VK) (E : XK) (g : List Code), Room k (A.deeper (envOfC qual (defScope st) s.heap.objs.size f cdv)) → A.guards = some g → GOk H g → sp vs H Q E →
      ∃ t, PSs (cxOf CX0 P w K mg base N qual (defScope st) f cdv A outer s H E).nox (defBody st) t ∧ t { nx := fun _ H' => Q .non H', rt := Q } (L2.start N vs) H) : FnOkH P w K mg base CX0 (k + 1) f fd ps sp := by
  obtain ⟨oc, od, kV, doc, pm, an, cdv, ct, osl, rfl, lk, hcd⟩ := F.ex
  refine ⟨len, fun A outer s H args us vs Q E g hr hg hgo e0 hb r hsp => ?_⟩
  refine LamX.run_ofS lk hcd S hr e0 hb r (len _ _ _ _ hsp) fun hr' => ?_
  obtain ⟨t, h, q⟩ := hbody cdv A outer s H vs Q E g hr' hg hgo hsp
  exact ⟨t, h.nox, q⟩
section
variable {X : Cx} {C f : Addr} {fd : FuncData} {k : Nat} {sp : Sp} {H : Hp}
theorem ReprStep.own {a : Addr} {t : Str} (F : FnOkH X.prog X.w X.K X.mg X.base CX0 k f fd ["self"] sp) (hb : L2.Binds X.K fd ["self"] []) (m : Meth X.K C "__repr__" f)
    (h : ∀ H', Same H H' → (∃ dx fs, H' a = some (.ins C dx fs)) ∧ sp [.ref a] H' (fun v H'' => v = .str t ∧ Same H' H'') E0) (hz : t.length ≤ sizeLine) : ReprStep X k H (.ref a) t := by
  intro base A g pins s σ H' u Q E' hbs hA hg I sm rx hQ
  cases rx
  obtain ⟨⟨dx, fs, ha⟩, h⟩ := h H' sm
  obtain ⟨mA, O, _⟩ := ins_get I.hok ha
  obtain ⟨od, J, _⟩ := O.look
  have X1 := I.kIn
  have hu := hA.room.units
  have hrun : wpAny (model X.prog X.w) A (call (.ref f) [.ref a]) (fun v s' => ∃ H'' tk, v = .str t tk ∧ L2.Inv X pins σ H'' s' ∧ Same H' H'') E' s := by
    have hl : ([Value.ref a] ++ []).length = ["self"].length := rfl
    have hb' : BindsTo s fd ⟨[.ref a], []⟩ ([("self" : Str)].zip [Value.ref a]) := hb s [.ref a] I.kIn rfl
    refine wpAny_call (codeAny_mono (F.run A X.stack s H' ⟨[.ref a], []⟩ [.ref a] [.ref a] _ E0 g hA.room hA.gd hg (hA.env I) hb' (.cons rfl .nil) h) fun r s' hq => ?_)
    cases r with
    | error e => exact (show False from hq).elim
    | ok fl =>
      cases fl with
      | ret w =>
        obtain ⟨v, H2, I2, rv, rfl, sm2⟩ := I.after hq
        obtain ⟨tk, rfl⟩ := rv
        exact ⟨H2, tk, rfl, I2, sm2⟩
      | next => exact False.elim hq
      | brk => exact False.elim hq
      | cont => exact False.elim hq
  refine wpAny_pyReprUnder_ref (by omega) ?_
  unfold pyReprObjUnder pyReprObjBy
  refine wpAny_bind (wpAny_cRoomFor (by omega) ?_)
  refine wpAny_bind (wpAny_bind (J.type.here ((PySem.W.looks_findIn X1 m.at_).here ?_)))
  show wpAny _ _ (if (some (Value.ref f)).isNone = true then _ else _) _ _ _
  rw [if_neg (by simp)]
  refine wpAny_bind ?_
  simp only [callSpecialIfBoundBy?, bindSpecialIfBound?]
  refine wpAny_holding (wpAny_bind (wpAny_bind (wpAny_bind (J.type.here ((PySem.W.looks_findIn X1 m.at_).here ?_)))))
  refine wpAny_bind (wpAny_askSetting (wpAny_ite ?_))
  have last : ∀ (Q' : Option Value → Shared → Prop), (∀ H'' s' tk, L2.Inv X pins σ H'' s' → Same H' H'' → Q' (some (.str t tk)) s') → wpAny (model X.prog X.w) A ((match reprUnder? (.ref f), [Value.ref a] with | some twin, [self] => call twin [self, rawInt base] | _, _ => call (.ref f) ([Value.ref a] ++ [])) >>= fun v => pure (some v)) Q' E' s := fun Q' hQ' => by
    refine wpAny_bind (wpAny_mono hrun (fun v s' hv => ?_) fun _ _ e => e)
    obtain ⟨H'', tk, rfl, I2, sm2⟩ := hv
    exact wpAny_pure (hQ' H'' s' tk I2 sm2)
  have fin : ∀ H'' s' tk, L2.Inv X pins σ H'' s' → Same H' H'' → wpAny (model X.prog X.w) A (do if ← isInstance (.str t tk) (.type "str") then pure (Value.str t tk) else raiseError "TypeError" s!"__repr__ returned non-string (type {← typeNameOf (.str t tk)})") (fun v s'' => ∃ x u, v = .str x u ∧ Q x s'') E' s' := fun H'' s' tk I2 sm2 => by
    refine wpAny_bind (wpAny_isInstance (typeIs_str _ _ _) isSubtype_str_str ?_)
    rw [if_pos rfl]
    exact wpAny_pure ⟨t, tk, rfl, hQ H'' s' I2 sm2⟩
  split
  · exact wpAny_bind ((PySem.W.bind_fn X1 _ (beq_iff_eq.mp m.fn)).here (wpAny_pure (last _ fun H'' s' tk I2 sm2 => fin H'' s' tk I2 sm2)))
  · exact wpAny_tryCatch (wpAny_bind ((PySem.W.bind_fn X1 _ (beq_iff_eq.mp m.fn)).here (wpAny_pure (last _ fun H'' s' tk I2 sm2 => fin H'' s' tk I2 sm2))))
end
end L3
namespace L3
open PySem PySem.Spec PyProof.Rows L2
open Builtin Builtin.List
abbrev lstO (acc : Array Value) (c : Nat) : Obj := { cls := .type "list", dict := none, data := .seq acc c, slots := #[] }
/-- a record of ours that may change -/
structure Mine (X : Cx) (pins : List (Addr × Obj)) (P : Addr) : Prop where
  new : X.s_0.heap.objs.size ≤ P
  cell : ∀ x c, X.env.cells.lookup x = some c → c ≠ P
  pin : ∀ p ∈ X.pn ++ pins, p.1 ≠ P
section
variable {X : Cx} {pins : List (Addr × Obj)} {σ : L2.St} {H : Hp} {s : Shared} {P : Addr}
theorem Mine.of (I : L2.Inv X pins σ H s) (hP : s.heap.objs.size ≤ P) : Mine X pins P := by
  refine ⟨Nat.le_trans I.sz hP, fun x c e z => ?_, fun p hp z => ?_⟩
  · obtain ⟨v, o, hv, _⟩ := I.cell x c e
    rw [z] at hv
    exact absurd (Heap.lt_size hv) (Nat.not_lt.mpr hP)
  · obtain ⟨q, _⟩ := I.pin p hp
    rw [z] at q
    exact absurd (Heap.lt_size q) (Nat.not_lt.mpr hP)
theorem repin {o o' : Obj} {h' : Heap} {t' : Nat} (M : Mine X pins P) (I : L2.Inv X ((P, o) :: pins) σ H s) (k : ∀ b u, b ≠ P → s.heap.get? b = some u → h'.get? b = some u) (ho : h'.get? P = some o') (hc : ∀ v, o'.data ≠ .cell v) :
    L2.Inv X ((P, o') :: pins) σ H { s with heap := h', toks := t' } := by
  obtain ⟨p1, p2, p3, p4, p5⟩ := I.pin (P, o) (List.mem_append_right _ List.mem_cons_self)
  have I1 := (ClX.unpin I).turned (t' := t') k p2 p3 (.inr M.new) M.cell M.pin
  refine I1.pins_of fun p hp => ?_
  rcases List.mem_cons.mp hp with e | e
  · subst e
    exact ⟨ho, p2, p3, p4, hc⟩
  · exact I1.pin p (List.mem_append_right _ e)
end
section
variable {X : Cx} {pins : List (Addr × Obj)} {σ : L2.St} {H : Hp} {k : Nat} {A : Around} {g : List Code} {base : Nat} {l P m C dx : Addr} {L : List V} {ts : List Str} {fs : List (Str × V)}
theorem reprL_loop (hA : AIn X (k + 1) g A) (hg : GOk H g) (hl : H l = some (.lst L)) (hm : V.ref m ∈ L) (hmi : H m = some (.ins C dx fs)) (hlen : ts.length = L.length) (hT : ∀ (i : Nat) x t, L[i]? = some x → ts[i]? = some t → ReprStep X k H x t) (hsz : base + (listText ts).length ≤ sizeLine) (M : Mine X pins P)
    {R : Result → Shared → Prop} (hR : ∀ H' s' u, L2.Inv X pins σ H' s' → Same H H' → R (.ok (.ret (.str (listText ts) u))) s') :
    ∀ (n i : Nat) (s : Shared) (H' : Hp) (acc : Array Value) (c : Nat) (done : List (Str × Tok)), L.length - i = n → i ≤ L.length → L2.Inv X ((P, lstO acc c) :: pins) σ H' s → Same H H' → acc.toList = strValues done → done.map (·.1) = ts.take i →
    codeAny (model X.prog X.w) A (.builtin "list.__repr__.loop" ⟨[.ref l, rawInt i, .ref P, rawInt ((base + piled (ts.take i) : Nat) : Int)], []⟩) R s := by
  have hX : (listText ts).length = (textFrom 0 "[" ts).length + 1 := by
    show (textFrom 0 "[" ts ++ "]").length = _
    rw [strLen_append]; rfl
  have hL := textFrom_len ts 0 "["
  have sz1 : L.length ≤ sizeLine := by
    have h1 := hL.1
    rw [if_neg (Nat.lt_irrefl 0)] at h1
    omega
  have sz2 : ∀ t ∈ ts, t.length ≤ sizeLine := fun t ht => by
    have h2 := hL.2.1 t ht
    omega
  have hp3 := piled_le_listText ts
  intro n
  induction n with
  | zero =>
    intro i s H' acc c done hn hi I sm hacc hdone
    have hin : i = L.length := by omega
    obtain ⟨_, its, na, rv, ho⟩ := (ClX.unpin I).hok _ _ (sm _ _ hl)
    have hP := ClX.pin_at I
    have nl := rv.length
    refine codeAny_builtin F.entry_list_repr_loop ?_
    show wpAny _ _ («list.__repr__.loop» ⟨[.ref l, .int i 0, .ref P, .int ((base + piled (ts.take i) : Nat) : Int) 0], []⟩) _ _ s
    rw [repr_loop_tree]
    refine wpAny_bind (wpAny_listItems ho rfl ?_)
    have hno : its.toArray[(i : Int).toNat]? = none := by simp; omega
    simp only [hno]
    unfold reprEnd
    refine wpAny_bind (wpAny_listItems hP rfl ?_)
    rw [hacc, repr_fold]
    refine wpAny_bind (wpAny_pure ?_)
    have hall : done.map (·.1) = ts := by rw [hdone, hin, ← hlen, List.take_length]
    rw [hall]
    refine wpAny_bind (wpAny_mkStr (wpAny_pure ?_) (by show (listText ts).length ≤ _; omega))
    exact hR H' _ _ ((ClX.unpin I).tok _) sm
  | succ n ih =>
    intro i s H' acc c done hn hi I sm hacc hdone
    have hlt : i < L.length := by omega
    obtain ⟨_, its, na, rv, ho⟩ := (ClX.unpin I).hok _ _ (sm _ _ hl)
    have nl := rv.length
    have hi1 : i < its.length := by omega
    obtain ⟨t, ht⟩ : ∃ t, ts[i]? = some t := ⟨ts[i]'(by omega), List.getElem?_eq_getElem (by omega)⟩
    have hx := List.getElem?_eq_getElem hlt
    have rx := rel_at rv hx (List.getElem?_eq_getElem hi1)
    have hp1 := piled_take_succ ht
    have hp2 := piled_take_le ts (i + 1)
    refine codeAny_builtin F.entry_list_repr_loop ?_
    show wpAny _ _ («list.__repr__.loop» ⟨[.ref l, .int i 0, .ref P, .int ((base + piled (ts.take i) : Nat) : Int) 0], []⟩) _ _ s
    rw [repr_loop_tree]
    refine wpAny_bind (wpAny_listItems ho rfl ?_)
    have hso : its.toArray[(i : Int).toNat]? = some its[i] := by simp [hi1]
    simp only [hso]
    rw [Int.toNat_natCast]
    refine wpAny_bind (wpAny_holding (hT i _ t hx ht (base + piled (ts.take i) + 1) _ _ ((P, lstO acc c) :: pins) s σ H' _ _ _ (by omega) (hA.loop _) ((hg.same sm).cons (sm _ _ hl) hm (sm _ _ hmi)) I sm rx fun H2 s2 I2 sm2 => ?_))
    have hP2 := ClX.pin_at I2
    refine wpAny_bind (wpAny_mkStr ?_ (sz2 t (List.mem_of_getElem? ht)))
    refine wpAny_bind ?_
    show wpAny _ _ (updateSeq P _) _ _ _
    have hasz : acc.size ≤ sizeLine := by
      have e1 : acc.toList.length = acc.size := by simp
      have e2 : (strValues done).length = done.length := by simp [strValues]
      have e3 : done.length = (ts.take i).length := by rw [← hdone, List.length_map]
      have e4 : (ts.take i).length ≤ i := by rw [List.length_take]; omega
      rw [hacc] at e1; omega
    refine wpAny_updateSeq hP2 rfl (wpAny_pure ⟨F.quiet_list_repr_loop _, ?_⟩) hasz
    have e1 : ((i : Int) + 1) = ((i + 1 : Nat) : Int) := by omega
    have e2 : base + piled (ts.take i) + (t.length + 2) = base + piled (ts.take (i + 1)) := by omega
    rw [e1, e2]
    have hP3 := Heap.get?_update_self (h := s2.heap) (Obj.mapSeq fun xs => xs.push (.str t s2.toks)) hP2 rfl
    refine ih (i + 1) _ H2 (acc.push (.str t s2.toks)) _ (done ++ [(t, s2.toks)]) (by omega) hlt (repin (t' := s2.toks + 1) M (I2.tok (s2.toks + 1)) (fun b u hb z => (Heap.get?_update_other _ _ (Ne.symm hb)).trans z) hP3 (fun v z => by cases z)) (sm.trans sm2) (by simp [hacc, strValues]) (by simp [List.take_add_one, ht, hdone])
/-- repr(l), l a list that holds own objects -/
theorem cr_reprL (hr : Room (k + 2) X.A) (hG : X.A.guards = some []) : CallR X (.builtin "repr") (fun xs H Q => ∃ (l m C dx : Addr) (L : List V) (ts : List Str) (fs : List (Str × V)), xs = [.ref l] ∧ H l = some (.lst L) ∧ V.ref m ∈ L ∧ H m = some (.ins C dx fs) ∧ ts.length = L.length ∧
    (∀ (i : Nat) x t, L[i]? = some x → ts[i]? = some t → ReprStep X k H x t) ∧ (listText ts).length ≤ sizeLine ∧ ∀ H', Same H H' → Q (.str (listText ts)) H') := by
  intro pins s σ H xs us Q I r h
  obtain ⟨l, m, C, dx, L, ts, fs, rfl, hl, hm, hmi, hlen, hT, hz, q⟩ := h
  rw [Vals.ref1 r]
  obtain ⟨_, its, na, rv, ho⟩ := I.hok _ _ hl
  have hu := hr.units
  refine call_repr_slot (by omega) (T := "list") (idr := "list.__repr__") ⟨_, ho, rfl⟩ F.slot_list_repr.toG ?_
  refine wpAny_call (codeAny_call_builtin F.slot_list_repr.plain F.entry_list_repr (F.slot_list_repr.check _ _ _ _ _ _ _ _ ⟨_, ho, rfl⟩ (F.args_list_repr_1 _) ?_))
  cases its with
  | nil => exact absurd (vals_mem rv hm) (by simp)
  | cons x ls =>
    have hA : AIn X (k + 1) [] X.A.in1 := (AIn.base hr hG).in1
    refine wpAny_list_repr_head (A := X.A.in1.in1) (g := []) (b := 0) hG (fun v rest kw hm => nomatch hm) ho rfl ?_
    refine wpAny_bind (m := newList []) (wpAny_newObj_type ?_)
    refine wpAny_pure ⟨F.quiet_list_repr_loop _, ?_⟩
    have I2 := ClX.pin_new (t' := s.toks) (o := lstO #[] 0) I (fun b u e => Heap.get?_push_of_some _ e) (Nat.le_refl _) (Heap.get?_push_size s.heap (o := lstO #[] 0) rfl) (fun v z => by cases z)
    refine reprL_loop (base := 0) (R := fun r s' => _) hA (GOk.nil H) hl hm hmi hlen hT (by omega) (Mine.of I (Nat.le_refl _)) (fun H' s' u I' sm => ?_) _ 0 _ H #[] _ [] rfl (Nat.zero_le _) I2 (Same.refl _) rfl (by simp)
    exact ⟨_, u, rfl, .str _, H', I', ⟨u, rfl⟩, q H' sm⟩
/-- {e!r}, e a list of data, while reprs are under way -/
def tFmtRH (K : PySem.W.Frag) (g : List Code) (te : TE) : TE := fun σ H Q => te σ H fun x H1 => ∃ (a : Addr) (d : PyData), x = .ref a ∧ Dp K H1 x d ∧ (∃ e es, d = .list (e :: es)) ∧ GOk H1 g ∧ d.showable = true ∧ d.shown.length ≤ sizeLine ∧ d.depth ≤ 50 ∧ Q (.str d.shown) H1
theorem pe_fmtRH {e : Expr} {te : TE} {pos : Pos} (hr : Room k X.A) (hG : X.A.guards = some g) (he : PE X e te) : PE X (.FormattedValue e 114 none pos) (tFmtRH X.K g te) := by
  refine ⟨fun pins s σ H Q I h => ?_⟩
  refine wpAny_FormattedValue_repr (thn (he.run pins s σ H _ I h) fun v s1 hv => ?_)
  obtain ⟨x, H1, I1, r1, a, d', rfl, hd, ⟨d, ds, rfl⟩, hgo, hs, hz, hdp, q⟩ := hv
  cases r1
  have hu := hr.units
  obtain ⟨as, hR⟩ := Dp.reads I1 _ (.ref a) (.ref a) hd rfl
  have hcl : ∀ {b : Addr} {d' : PyData} {as' : List Addr}, Reads s1.heap (.ref b) d' as' → Clear g b := fun r => gok_clear I1 hgo r
  have hR0 := hR
  have hnd := dp_noDict (K := X.K) (H := H1) hd
  cases hR with
  | @list _ o vs n _ bs0 h1 h2 h3 h4 =>
    obtain ⟨lv⟩ := vs
    cases lv with
    | nil => cases h4
    | cons y ys =>
      have hz' : (listText (PyData.shownAll (d :: ds))).length ≤ sizeLine := by simpa only [PyData.shown] using hz
      obtain ⟨bs, hb, hk⟩ := ReprAllK.of_readsAll (prog := X.prog) (w := X.w) h4 (by simpa [PyData.showable] using hs) (fun hx => absurd hx (by
        have : PyData.hasDictAll (d :: ds) = false := by simpa [PyData.hasDict] using hnd
        rw [this]; decide)) (fun t ht => Nat.le_trans (listText_mem_le ht) hz')
      have hna : a ∉ bs := not_mem_of_deeper hR0 (by simp only [PyData.depth]; omega) hb
      have hdd : PyData.depthAll (d :: ds) + 1 ≤ 50 := by simpa [PyData.depth] using hdp
      refine wpAny_pyReprObj_listK h1 h2 h3 hna (by simpa using hk.length_eq) (fun i y e => hk.item i y (by simpa using e)) hG (fun b hbm => ?_) (by omega) (fun _ _ e => e) (fun h' t tk hk' => ?_) hz'
      · rcases List.mem_cons.mp hbm with rfl | hbm
        · exact hcl hR0
        · obtain ⟨d', as', r', _⟩ := hb b hbm
          exact hcl r'
      · have hsh : (PyData.list (d :: ds)).shown = listText (PyData.shownAll (d :: ds)) := by simp only [PyData.shown]
        rw [← hsh]
        exact wpAny_formatField_str ⟨.str _, H1, I1.kept hk', ⟨_, rfl⟩, q⟩ ⟨.str _, H1, (I1.kept hk').tok _, ⟨_, rfl⟩, q⟩ hz
end
end L3
namespace L3
open PySem PySem.Spec PyProof.Rows L2
def keyD : Key → PyData
  | .inl i => .int i
  | .inr x => .str x
theorem keyD_noDict : ∀ ks : List Key, PyData.hasDictAll (ks.map keyD) = false
  | [] => by simp only [List.map_nil, PyData.hasDictAll]
  | .inl i :: ks => by
    have := keyD_noDict ks
    simp only [List.map_cons, PyData.hasDictAll, keyD, PyData.hasDict, this, Bool.or_self]
  | .inr i :: ks => by
    have := keyD_noDict ks
    simp only [List.map_cons, PyData.hasDictAll, keyD, PyData.hasDict, this, Bool.or_self]
section
variable {P : Program} {w : World} {h : Heap}
/-- what the entries of a dict hold -/
theorem ent_of : ∀ {es : List DictEntry} {kvs : List (Key × V)} {vs : List (Key × Value)}, KV kvs vs → Pairs (mixKind P w) es vs → (∃ as, ReadsAll h (es.map (·.key)) (kvs.map fun kv => keyD kv.1) as) ∧ Vals (kvs.map (·.2)) (es.map (·.val))
  | _, _, _, .nil, .nil => ⟨⟨_, .nil⟩, .nil⟩
  | e :: es, kv :: kvs, v :: vs, .cons ⟨h1, h2⟩ r, .cons k1 k2 p => by
    obtain ⟨⟨as, ra⟩, rv⟩ := ent_of r p
    refine ⟨?_, .cons (by show RelV kv.2 e.val; rw [k2]; exact h2) rv⟩
    have k1 : keyIs v.1 e.key = true := k1
    rcases keyIs_shape k1 with ⟨i, t, e1, e2⟩ | ⟨x, t, e1, e2⟩
    · refine ⟨[] ++ as, .cons ?_ ra⟩
      show Reads h e.key (keyD kv.1) []
      rw [e2, h1, e1]
      exact .int i t
    · refine ⟨[] ++ as, .cons ?_ ra⟩
      show Reads h e.key (keyD kv.1) []
      rw [e2, h1, e1]
      exact .str x t
end
theorem zip_fstD {α β : Type} : ∀ {a : List α} {b : List β}, a.length = b.length → (a.zip b).map (·.1) = a
  | [], [], _ => rfl
  | x :: a, y :: b, h => by rw [List.zip_cons_cons, List.map_cons, zip_fstD (Nat.succ.inj h)]
theorem zip_sndD {α β : Type} : ∀ {a : List α} {b : List β}, a.length = b.length → (a.zip b).map (·.2) = b
  | [], [], _ => rfl
  | x :: a, y :: b, h => by rw [List.zip_cons_cons, List.map_cons, zip_sndD (Nat.succ.inj h)]
/-- the data of a dict -/
def dDict (kvs : List (Key × V)) (ds : List PyData) : PyData := .dict ((kvs.map fun kv => keyD kv.1).zip ds)
section
variable {X : Cx} {k : Nat} {H : Hp}
theorem ReprStep.dct {a : Addr} {kvs : List (Key × V)} {ds : List PyData} (ha : H a = some (.dK kvs)) (hv : DpAll X.K H (kvs.map (·.2)) ds) (hs : (dDict kvs ds).showable = true) (hz : (dDict kvs ds).shown.length ≤ sizeLine) (hp : (dDict kvs ds).depth ≤ 50) : ReprStep X k H (.ref a) (dDict kvs ds).shown := by
  intro base A g pins s σ H' u Q E' hb hA hg I sm rx hQ
  cases rx
  have ha' := sm _ _ ha
  have hv' := DpAll.same sm hv
  have hu := hA.room.units
  obtain ⟨z, hsys, vs, rel, o, es, ep, ho, hex, hd, hkeys, hpairs, hnd⟩ := dk_of I.hok ha'
  obtain ⟨⟨as, ra⟩, rv⟩ := ent_of (h := s.heap) rel hpairs
  obtain ⟨bs, rb⟩ := Dp.readsAll I ds _ _ hv' rv
  have hlen : (kvs.map fun kv => keyD kv.1).length = ds.length := by rw [← dpAll_len hv', List.length_map, List.length_map]
  unfold dDict at hs hz hp hQ hb
  have e1 := zip_fstD hlen
  have e2 := zip_sndD hlen
  have nk := keyD_noDict (kvs.map (·.1))
  rw [List.map_map] at nk
  have nk : PyData.hasDictAll (kvs.map fun kv => keyD kv.1) = false := nk
  have nv : PyData.hasDictAll ds = false := dpAll_noDict hv'
  generalize (kvs.map fun kv => keyD kv.1).zip ds = kd at *
  rw [← e1] at ra nk
  rw [← e2] at rb nv
  have hz' : (dictText (PyData.shownKv kd)).length ≤ sizeLine := by simpa only [PyData.shown] using hz
  obtain ⟨hs1, hs2⟩ := PyData.showableKv_split kd (by simpa [PyData.showable] using hs)
  obtain ⟨b1, hb1, k1⟩ := ReprAllK.of_readsAll (prog := X.prog) (w := X.w) ra hs1 (fun q => by rw [nk] at q; cases q) (fun t ht => let ⟨p, hp, hl⟩ := PyData.shownKv_key_le kd t ht; Nat.le_trans hl (Nat.le_trans (dictText_mem_le hp) hz'))
  obtain ⟨b2, hb2, k2⟩ := ReprAllK.of_readsAll (prog := X.prog) (w := X.w) rb hs2 (fun q => by rw [nv] at q; cases q) (fun t ht => let ⟨p, hp, hl⟩ := PyData.shownKv_val_le kd t ht; Nat.le_trans hl (Nat.le_trans (dictText_mem_le hp) hz'))
  have hcls : o.cls = .type "dict" := hex.1
  have r : Reads s.heap (.ref a) (.dict kd) _ := .dict ho hcls hd ra rb
  have hbm : ReadAtMost s.heap (PyData.depthKv kd) (b1 ++ b2) := (hb1.mono (PyData.depthAll_keys_le kd)).append (hb2.mono (PyData.depthAll_vals_le kd))
  have hna : a ∉ b1 ++ b2 := not_mem_of_deeper r (by simp only [PyData.depth]; omega) hbm
  have hk : ReprK X.prog X.w (a :: (b1 ++ b2)) s.heap (PyData.depthKv kd + 1) (.ref a) (dictText (List.zipWith (fun k v : Str => k ++ ": " ++ v) (PyData.shownAll (kd.map (·.1))) (PyData.shownAll (kd.map (·.2))))) := ReprK.dict ho hcls hd hsys hna (ReprEntriesK.of_two es.toList _ _
    (k1.more_le (fun b hb => List.mem_append_left _ hb) (PyData.depthAll_keys_le kd)) (k2.more_le (fun b hb => List.mem_append_right _ hb) (PyData.depthAll_vals_le kd)))
  have hsh : (PyData.dict kd).shown = dictText (List.zipWith (fun k v : Str => k ++ ": " ++ v) (PyData.shownAll (kd.map (·.1))) (PyData.shownAll (kd.map (·.2)))) := by simp only [PyData.shown, PyData.shownKv_eq]
  have hdp : (PyData.dict kd).depth = PyData.depthKv kd + 1 := by simp only [PyData.depth]
  rw [hsh] at hb hQ
  rw [hdp] at hp
  refine hk base hb A g E' s Q hA.gd (fun b hbm' => ?_) (by omega) (fun _ _ e => e) fun h' tk kk => hQ H' _ (I.kept kk) (Same.refl _)
  rcases List.mem_cons.mp hbm' with rfl | hbm'
  · exact gok_clear I hg r
  · obtain ⟨d', as', r', _⟩ := hbm b hbm'
    exact gok_clear I hg r'
end
end L3
namespace L3
open PySem PySem.Spec PyProof.Rows L2
mutual
inductive DpD (K : PySem.W.Frag) (H : Hp) : V → PyData → Prop
  | data {v : V} {d : PyData} : Dp K H v d → DpD K H v d
  | lst {a : Addr} {xs : List V} {ds : List PyData} : SqL K H a xs → DpDs K H xs ds → DpD K H (.ref a) (.list ds)
  | tup {a : Addr} {xs : List V} {ds : List PyData} : SqT K H a xs → DpDs K H xs ds → DpD K H (.ref a) (.tuple ds)
  | dct {a : Addr} {kvs : List (Key × V)} {ds : List PyData} {kd : List (PyData × PyData)} : H a = some (.dK kvs) → DpDs K H (kvs.map (·.2)) ds → kd = (kvs.map fun kv => keyD kv.1).zip ds → DpD K H (.ref a) (.dict kd)
inductive DpDs (K : PySem.W.Frag) (H : Hp) : List V → List PyData → Prop
  | nil : DpDs K H [] []
  | cons {v : V} {vs : List V} {d : PyData} {ds : List PyData} : DpD K H v d → DpDs K H vs ds → DpDs K H (v :: vs) (d :: ds)
end
theorem DpDs.len {K : PySem.W.Frag} {H : Hp} : ∀ {vs : List V} {ds : List PyData}, DpDs K H vs ds → vs.length = ds.length
  | _, _, .nil => rfl
  | _, _, .cons _ t => congrArg (· + 1) t.len
end L3
namespace L3
open PySem PySem.Spec PyProof.Rows L2 PpSet
end L3
namespace L3
open PySem PySem.Spec PyProof.Rows L2
/-- the text of an __init__ with one field -/
def Bd1 (scope : Scope) (body : List Stmt) (x f : Str) : Prop := ∃ txt kk p0 p1 p2 p3 p4 p5 q1 q2 q3 q4, body = [.Expr (supE txt kk p0 p1 p2 p3 p4) p5, .Assign [.Attribute (.Name "self" q1) f q2] (.Name x q3) q4] ∧ SupOk scope txt kk p0 p1 p2 p3 p4 ∧ Sto scope x f q1 q2 q3 q4
def Bd2 (scope : Scope) (body : List Stmt) (x f y f2 : Str) : Prop := ∃ txt kk p0 p1 p2 p3 p4 p5 q1 q2 q3 q4 r1 r2 r3 r4, body = [.Expr (supE txt kk p0 p1 p2 p3 p4) p5, .Assign [.Attribute (.Name "self" q1) f q2] (.Name x q3) q4, .Assign [.Attribute (.Name "self" r1) f2 r2] (.Name y r3) r4] ∧
  SupOk scope txt kk p0 p1 p2 p3 p4 ∧ Sto scope x f q1 q2 q3 q4 ∧ Sto scope y f2 r1 r2 r3 r4
/-- an error class with one field -/
def Er1 (P : Program) (K : PySem.W.Frag) (mg : Str → Option Value) (C : Addr) (x f : Str) : Prop := ∃ fI B newId initId bmB params body scope, ErrT P K mg C fI B newId initId bmB ["self", x] params body scope ∧ Bd1 scope body x f ∧ PySem.W.findIn K (.ref C) f = some none
def Er2 (P : Program) (K : PySem.W.Frag) (mg : Str → Option Value) (C : Addr) (x f y f2 : Str) : Prop := ∃ fI B newId initId bmB params body scope, ErrT P K mg C fI B newId initId bmB ["self", x, y] params body scope ∧ Bd2 scope body x f y f2 ∧ PySem.W.findIn K (.ref C) f = some none ∧ PySem.W.findIn K (.ref C) f2 = some none
section
variable {X : Cx} {C : Addr} {cn x f y f2 : Str} {W : WX} {p pos pos2 : Pos} {e e2 : Expr} {ta : TA}
/-- raise C(e) -/
theorem ps_raise1 (hc : X.calm = true) (T : Er1 X.prog X.K X.mg C x f) (hr : Room 1 X.A) (tk : Takes X W) (hm : X.mg cn = some (.ref C)) (ha : PA X [e] ta) (hg : Gl X cn := by rfl) (hdb : (cn == ("__debug__" : Str)) = false := by decide) (he : starEach [e] X.env = (false, eval e X.env) :: starEach [] X.env := by rfl) :
    PS X (.Raise (some (.Call (.Name cn p) [e] [] pos)) none pos2) (fun _ σ H => tMk1 C f ta σ H fun cls d H' => W cls d σ H') := by
  obtain ⟨fI, B, newId, initId, bmB, params, body, scope, T, ⟨txt, kk, p0, p1, p2, p3, p4, p5, q1, q2, q3, q4, hb, hev, D⟩, hfn⟩ := T
  exact ps_raise hc tk (pmk_err1 T hev D hfn hb hr hg hm ha hdb he)
theorem ps_raise2 (hc : X.calm = true) (T : Er2 X.prog X.K X.mg C x f y f2) (hr : Room 1 X.A) (tk : Takes X W) (hm : X.mg cn = some (.ref C)) (ha : PA X [e, e2] ta) (hg : Gl X cn := by rfl) (hdb : (cn == ("__debug__" : Str)) = false := by decide) (he : starEach [e, e2] X.env = (false, eval e X.env) :: starEach [e2] X.env := by rfl)
    (hpl : (backTo pos (starEach [e2] X.env)).any (·.1) = false := by rfl) :
    PS X (.Raise (some (.Call (.Name cn p) [e, e2] [] pos)) none pos2) (fun _ σ H => tMk2 C f f2 ta σ H fun cls d H' => W cls d σ H') := by
  obtain ⟨fI, B, newId, initId, bmB, params, body, scope, T, ⟨txt, kk, p0, p1, p2, p3, p4, p5, q1, q2, q3, q4, r1, r2, r3, r4, hb, hev, D, D2⟩, hfn, hfn2⟩ := T
  exact ps_raise hc tk (pmk_err2 T hev D D2 hfn hfn2 hb hr hg hm ha hdb he hpl)
end
/-- how ErrF is shown -/
theorem errF_mk {P : Program} {K : PySem.W.Frag} {mg : Str → Option Value} {C fI pr : Addr} {B newId initId : String} {bmB : List Value} {ps : List Str} {params : Arguments} {body : List Stmt} {scope : Scope}
    {nm q : Str} {N : Addr} {bs : List Value} {sn : List Str} {sub : List Value} {ab : Bool} {col : Option Bool} {dd : Option Addr} {k0 k1 k2 k3 k5 : Option Value}
    {qual : Str} {dV kV doc pm ct oc ccl cl : Value} {an od cdd cld : Option Addr} {cda cc : Addr} {osl ccs csl : Array (Option Value)} {vs : Array Value} {file : Str} {tf : Tok}
    (bf : ExcBaseFacts B newId initId bmB) (sf : PySem.W.KxsFacts B initId) (obj : bmB.contains (.type "object") = true) (pass : ∀ self : Value, refuseLoop self "__setattr__" bmB = pure ())
    (lc : K.lookup C = some (excClassObj nm q C N bs (.ref pr :: bmB) true sn sub ab col dd k0 k1 k2 k3 k5 newId))
    (li : K.lookup fI = some ⟨oc, od, .func (PySem.W.ksFn "__init__" qual params body scope dV kV doc pm an (.ref cda) ct cc), osl⟩) (ei : PySem.W.codeIn K (.ref cda) qual = true)
    (lk : K.lookup cda = some ⟨ccl, cdd, .fields vs, ccs⟩) (v2 : vs[2]? = some (.str file tf)) (fl : ((P.main.file : Str) == file) = true) (lcc : K.lookup cc = some ⟨cl, cld, .cell (some (.ref C)), csl⟩)
    (hb : ∀ s us, us.length = ps.length → BindsTo s (PySem.W.ksFn "__init__" qual params body scope dV kV doc pm an (.ref cda) ct cc) ⟨us, []⟩ (ps.zip us))
    (su : PySem.W.ks_superIn K C C "__init__" = some (some (.builtin initId))) (se : PySem.W.mroIn K C (.ref C) = some true) (sb : PySem.W.subIn K (.ref C) (.type B) = some true) (op : PySem.W.nsIn K cStatics "thirdparty.any" = some none)
    (gl : mg "super" = none) (tp : (P.main.scope.names.lookup ("super" : Str)).isSome = false) (sa : PySem.W.findIn K (.ref C) "__setattr__" = some (some (.builtin "object.__setattr__"))) (ii : PySem.W.findIn K (.ref C) "__init__" = some (some (.ref fI)))
    (ti : PySem.W.typeIn K (.ref fI) = some (.type "function")) (kc : PySem.W.keepIn K (.ref C) = true) (ex : PySem.W.subIn K (.ref C) (.type "BaseException") = some true) (ty : PySem.W.typeIn K (.ref C) = some (.type "type")) :
    ErrF P K mg C fI B newId initId bmB ps params body scope := by
  refine ⟨bf, obj, sf, ⟨nm, q, N, bs, .ref pr :: bmB, sn, sub, ab, col, dd, k0, k1, k2, k3, k5, lc, fun X => ?_, fun self => ?_⟩, ⟨qual, dV, kV, doc, pm, an, cda, ct, cc, oc, od, osl, vs, file, tf, ccl, cdd, ccs, cl, cld, csl, li, ei, lk, v2, fl, lcc, hb⟩, su, se, sb, op, gl, tp, sa, ii, ti, kc, ex, ty⟩
  · rw [List.contains_cons]; rfl
  · rw [refuseLoop_ref, refuseLoop_ref]; exact pass self
end L3
namespace L3
open PySem PySem.Spec PyProof.Rows L2
theorem passE0 {P : Program} {w : World} {X : Cx} : Passes (L2.CX P w) X E0 := fun _ _ _ _ _ _ _ h => by
  obtain ⟨_, _, _, _, _, _, _, _, _, _, _, _, z⟩ := h
  exact z.elim
def k4 {α : Type} : List α → List α → List α
  | [], [w, v, u, t] => [t, u, v, w]
  | _, _ => []
end L3
namespace L3
open PySem PySem.Spec PyProof.Rows L2
def s3 {α : Type} : List α → List α → List α
  | [], [w, v, u] => [u, v, w]
  | _, _ => []
def n3 {α : Type} : List α → List α → List α
  | [s], [w, v, u] => [s, v, u, w]
  | _, _ => []
section
variable {prog : Program} {w : World} {A : Around} {E : Value → Shared → Prop} {s : Shared} {K : PySem.W.Frag} {x D : Addr} {ox od : Obj}
theorem exc_class {Q : Option Value → Shared → Prop} (C : ExcC K D) (X : K.In s.heap) (I : PySem.W.InstAt s.heap x ox D (some od)) (h : Q (some (.ref D)) { s with toks := s.toks + 1 }) : wpAny (model prog w) A (getAttr? (.ref x) "__class__") Q E s := by
  have hf : PySem.W.findObj K D (some od) "__class__" = some (.bind (.builtin "getset_descriptor.__get__") (.builtin "object.__class__")) := PySem.W.findObj_data (by obtain ⟨cd, hc, _⟩ := PySem.W.any_some C.hd; rw [hc]; rfl) C.ha C.hn C.ht
  obtain ⟨hp, g, d, t, os⟩ := s
  have lT := I.type (M := model prog w)
  have lG := PySem.W.looks_findIn (M := model prog w) X C.hg
  have lK := PySem.W.looks_findIn (M := model prog w) X C.hk
  have lF := PySem.W.looks_find (M := model prog w) X I hf
  have isB : PySem.W.Looks (model prog w) hp (isInstance (.ref x) (.type "BaseException")) true := lT.andThen (PySem.W.looks_subIn X C.hs)
  have b0 : (false && onTheHeap (Value.builtin "BaseException.__getattribute__")) = false := rfl
  have b2 : (Value.builtin "BaseException.__getattribute__" == Value.builtin "object.__getattribute__") = false := by decide +kernel
  have b1 : (onTheHeap (Value.ref D) && Value.builtin "BaseException.__getattribute__" == Value.builtin "object.__getattribute__") = false := by rw [b2]; rfl
  unfold getAttr? getAttrBy? getAttrBy
  refine wpAny_bind (wpAny_mkText (wpAny_bind (wpAny_attempt (wpAny_holding (wpAny_bind (lT.at (wpAny_bind (lG.at ?_))))))))
  show wpAny _ _ (if (onTheHeap (Value.ref D) && Value.builtin "BaseException.__getattribute__" == Value.builtin "object.__getattribute__") = true then _ else _) _ _ _
  rw [b1, if_neg Bool.false_ne_true]
  unfold getAttrByItsOwn hookBefore
  refine wpAny_bind ?_
  rw [if_pos (show onTheHeap (Value.ref D) = true from rfl)]
  refine lK.at (wpAny_bind (wpAny_attempt (wpAny_holding ?_)))
  unfold callGetattribute
  rw [b0, if_neg Bool.false_ne_true]
  unfold boundAndCalled
  rw [PySem.F.excAttr_ValueError.ga.bind (.ref x)]
  refine wpAny_bind (wpAny_pure ?_)
  show wpAny _ _ (call (.builtin "BaseException.__getattribute__") [.ref x, .str "__class__" t]) _ _ _
  refine wpAny_call (codeAny_call_builtin PySem.F.excAttr_ValueError.ga.plain PySem.F.entry_bexc_ga ?_)
  refine @PySem.W.check_slot (model prog w) _ _ ⟨hp, g, d, t + 1, os⟩ "BaseException.__getattribute__" "BaseException" "__getattribute__" (.ref x) [.str "__class__" t] [] _ (by decide +kernel) (by decide +kernel) isB (PySem.F.args_bexc_ga (.ref x) (.str "__class__" t)) ?_
  unfold Builtin.«object.__getattribute__»
  refine wpAny_bind (wpAny_of_eq (a := ((Value.ref x : Value), [Value.str "__class__" t])) (by first | rfl | (simp only [slotArgs]; rfl)) ?_)
  refine wpAny_bind (wpAny_pure (wpAny_bind (lT.at (wpAny_bind (lF.at ?_)))))
  show wpAny _ _ (holding [Value.builtin "object.__class__"] (call (.builtin "getset_descriptor.__get__") [.builtin "object.__class__", .ref x, .ref D]) >>= ret) _ _ _
  refine wpAny_bind (wpAny_holding (wpAny_call (PySem.W.class_get (s := ⟨hp, g, d, t + 1, os⟩) (ox := ox) (od := some od) X I C.hm ?_)))
  refine wpAny_pure ?_
  show wpAny _ _ (handedOut (.ref D)) _ _ _
  rw [PySem.W.handedOut_of (v := .ref D) rfl]
  first
    | exact wpAny_pure (wpAny_pure h)
    | exact wpAny_pure h
    | exact wpAny_pure (wpAny_bind (wpAny_pure (wpAny_pure h)))
theorem kitx_excD (C : ExcC K D) : PySem.W.KitX K (.ref x) (.ref D) (fun h => PySem.W.InstAt h x ox D (some od)) where
  ty := fun _ _ _ I => I.type
  it := fun _ _ X _ => by
    obtain ⟨cdD, hcD, _⟩ := PySem.W.any_some C.hd
    unfold PySem.W.clsIn at hcD
    split at hcD
    · rename_i c1 d1 cd1 sl1 ho
      intro A1 Q1 E1 s1 k q
      unfold isType loadHead
      exact wpAny_bind (wpAny_loadPart (k _ _ (X _ _ ho)) (wpAny_pure q))
    · cases hcD
  ne := fun h tp dd its n sl X htp => by
    obtain ⟨cdD, hcD, _⟩ := PySem.W.any_some C.hd
    refine Bool.eq_false_iff.mpr fun q => ?_
    have e : D = tp := Value.ref.inj (beq_iff_eq.mp q)
    subst e
    unfold PySem.W.clsIn at hcD
    split at hcD
    · rename_i c1 d1 cd1 sl1 ho
      have z := (X _ _ ho).symm.trans htp
      cases z
    · cases hcD
  ca := fun X I k => exc_class C X I k
end
/-- isinstance(e, c), e the error that the suite holds, its fields at dd -/
def rIsD (K : PySem.W.Frag) (cls : Value) (d : Option Addr) (D a : Addr) : List V → Hp → VK → Prop := fun xs H Q => ∃ (c : V) (cv : Value) (b : Bool) (dd : Addr) (fs : List (Str × V)), xs = [.ref a, c] ∧ cls = .ref D ∧ d = some dd ∧ H dd = some (.xd fs) ∧ (∀ u, RelV c u → u = cv) ∧ PySem.W.kitOne K (.ref D) cv = some b ∧ Q (.bl b) H
theorem call_isD {X : Cx} {a D : Addr} {oe : Obj} {cls : Value} {d : Option Addr} {pn : List (Addr × Obj)} (C : ExcC X.K D) (hz : Zc cls d oe) (hf : ∃ vs, oe.data = .fields vs) : CallR (X.suite a ((a, oe) :: pn)) (.builtin "isinstance") (rIsD X.K cls d D a) := by
  intro pins s σ H xs us Q I r h
  obtain ⟨c, cv, b, dd, fs, rfl, rfl, rfl, ea, hcv, e, q⟩ := h
  match us, r with
  | [_, _], .cons rx (.cons rt .nil) =>
    cases rx
    have ec := hcv _ rt
    subst ec
    obtain ⟨hget, _⟩ := I.pin (a, oe) (List.mem_append.mpr (.inl List.mem_cons_self))
    obtain ⟨vs, hv⟩ := hf
    have hx : ObjOk X.prog X.w H s.heap dd (.xd fs) := I.hok dd _ ea
    obtain ⟨mA, hns, hr⟩ := hx
    obtain ⟨od, ho, hl⟩ := lookIn_ns hns
    have J : PySem.W.InstAt s.heap a oe D (some od) := ⟨hget, hz.1, by unfold PySem.W.notCls; rw [hv] <;> rfl, by rw [hz.2]; exact ho⟩
    exact PySem.W.kia_one (kitx_excD C) I.kIn J e (fun z => nomatch z) fun tk => ⟨.bl b, H, I.kept (t' := tk) fun _ _ z => z, rfl, q⟩
end L3
namespace L3
open PySem PySem.Spec PyProof.Rows L2 LamX
/-- the context of the def at g that got the lambda, entered at s from X -/
abbrev gCx (X : Cx) (N : List Str) (q : Str) (sg : Scope) (g : Addr) (cd : Value) (s : Shared) (H : Hp) : Cx := cxOf C8.CX0 X.prog X.w X.K X.mg X.base N q sg g cd X.A X.stack s H C8.E0
/-- a() in that def, a its first slot: the lambda's body is read at the slots σ where it was made; its errors go to the def's W at its own slots -/
theorem pe_lam_run {X : Cx} {pins : List (Addr × Obj)} {σ : L2.St} {H : Hp} {s : Shared} {N : List Str} {q a : Str} {sg scope : Scope} {g f c' : Addr} {cd pm ctv : Value} {params : Arguments} {body : Expr} {k : Nat} {pn : List (Addr × Obj)} {xe : Value → Shared → Prop} {W : WX} {tb : XK → TE} {p1 p2 : Pos}
    (I : L2.Inv X pins σ H s) (L : LamS X.env.scope scope) (hf : s.heap.get? f = some (PySem.W.kla_obj "<lambda>" (X.env.qual ++ "<lambda>") params body scope (cloFrom X.env.cells scope.names []) pm c' ctv)) (fNone : H f = none) (fFr : f ∉ frs X.stack)
    (hbind : bindArgs (PySem.W.kla_fn "<lambda>" (X.env.qual ++ "<lambda>") params body scope (cloFrom X.env.cells scope.names []) pm (.ref c') ctv) ⟨[], []⟩ = pure [])
    (take : Takes ((gCx X N q sg g cd s H).tr pn xe) W) (room : Room (k + 1) (X.A.deeper (envOfC q sg s.heap.objs.size g cd)))
    (hb : ∀ (A : Around) (outer : List Env) (s : Shared) (H : Hp) (E : XK), Room k (A.deeper (lamEnv X scope s.heap.objs.size f c')) → PE (lamCx X A outer s H E scope f c') body (tb E))
    (hN : N[0]? = some a) (hv : Vis sg a) (hd : (a == ("__debug__" : Str)) = false := by decide) (hcd : (a == ("__classdict__" : Str)) = false := by decide) :
    PE ((gCx X N q sg g cd s H).tr pn xe) (.Call (.Name a p1) [] [] p2) (fun τ HZ Q => τ[0]? = some (some (.ref f)) ∧ HZ c' = some (CodeO c' (X.env.qual ++ "<lambda>")) ∧ tb (WE W τ) σ HZ Q) := by
  refine ⟨fun pinsZ sZ τ HZ Q IZ h => ?_⟩
  obtain ⟨hs, hc, ht⟩ := h
  refine wpAny_Call_Name_kw (thn ((pe_var (pos := p1) (i := 0) hN hv hd hcd).run pinsZ sZ τ HZ (fun v H1 => v = .ref f ∧ H1 = HZ) IZ ⟨.ref f, hs, rfl, rfl⟩) fun u s1 ⟨v, H1, I1, r1, ev, eH⟩ => ?_)
  subst ev eH
  obtain rfl : u = Value.ref f := r1
  have atF : s1.heap.get? f = some (PySem.W.kla_obj "<lambda>" (X.env.qual ++ "<lambda>") params body scope (cloFrom X.env.cells scope.names []) pm c' ctv) := I1.base.keep f _ hf fNone fFr (fun z => nomatch (show f ∈ ([] : List Addr) from z))
  have un : Un (frs X.stack) [] H H1 s.heap s1.heap := I1.base
  obtain ⟨⟨oc, vs, t, hoc, hdc, hvc⟩, _, _⟩ := I1.hok c' _ hc
  have run : codeAny (model X.prog X.w) (X.A.deeper (envOfC q sg s.heap.objs.size g cd)) (.call (.ref f) ⟨[], []⟩) (CR (L2.CX X.prog X.w) (envOfC q sg s.heap.objs.size g cd :: X.stack) X.prog X.w H1 s1 Q (WE W τ)) s1 := by
    refine PySem.W.kla_callFunE room.depth atF rfl L.co L.gen rfl ⟨c', oc, vs, t, rfl, hoc, hdc, hvc⟩ ?_
    rw [hbind]
    refine wpAny_pure (wpAny_newFunctionEnv (fun y hy => (L.own y hy).2) (fun y hy => absurd hy (by simp)) (fun h₁ hns hsb => ⟨I1.nolimit.fresh _ hsb, ?_⟩) L.kind)
    show codeAny _ _ (.expr body (lamEnv X scope s1.heap.objs.size f c')) _ _
    have kp : ∀ b o, s1.heap.get? b = some o → h₁.get? b = some o := fun b o e => hsb.extBut b o (Nat.ne_of_lt (Heap.lt_size e)) (Heap.get?_push_of_some _ e)
    have J : L2.Inv (lamCx X (X.A.deeper (envOfC q sg s.heap.objs.size g cd)) (envOfC q sg s.heap.objs.size g cd :: X.stack) s1 H1 (WE W τ) scope f c') [] σ H1 { s1 with heap := h₁, toks := s1.toks + ([] : List (Str × Value)).length } := lam_start2 I L I1.env0 room.hd un hns kp
    refine PySem.W.kla_codeExpr (wpAny_mono ((hb _ _ s1 H1 (WE W τ) (room.deeper _)).run [] _ _ H1 Q J ht) (fun v s' ⟨w', H', J', rv, z⟩ => ?_) fun e s' z => z)
    exact ⟨w', H', J'.os, J'.bare, J'.base, J'.hok, rv, z⟩
  refine PySem.W.callWith_F0 ⟨_, _, _, _, atF⟩ (wpAny_call (codeAny_mono run fun r s' z => ?_))
  match r, z with
  | .error e, z => exact passAt take τ pinsZ H1 s1 e s' I1 z
  | .ok (.ret u), z => exact I1.after z
/-- the def calls what it got: TT: what it makes of the lambda's reading -/
def GivesS (k : Nat) (X : Cx) (N : List Str) (x : Str) (sg : Scope) (g : Addr) (cd : Value) (bg : List Stmt) (a : Str) (q : Str) (TT : (XK → Hp → VK → Prop) → Hp → VK → Prop) : Prop :=
  ∀ (f c' : Addr) (s : Shared) (H : Hp) (Q : VK) (tl : XK → Hp → VK → Prop), Room (k + 1) (X.A.deeper (envOfC x sg s.heap.objs.size g cd)) →
    (∀ (W : WX) (pn : List (Addr × Obj)) (xe : Value → Shared → Prop) (p1 p2 : Pos), Takes ((gCx X N x sg g cd s H).tr pn xe) W →
      PE ((gCx X N x sg g cd s H).tr pn xe) (.Call (.Name a p1) [] [] p2) (fun τ HZ Q => τ[0]? = some (some (.ref f)) ∧ HZ c' = some (CodeO c' q) ∧ tl (WE W τ) HZ Q)) →
    H c' = some (CodeO c' q) → TT tl H Q →
    ∃ t, PSs (gCx X N x sg g cd s H).nox bg t ∧ t { nx := fun _ H' => Q .non H', rt := Q } (L2.start N [.ref f]) H
end L3
namespace L3
open PySem PySem.Spec PyProof.Rows L2
end L3
namespace L3
open PySem PySem.Spec PyProof.Rows L2 LamX NdefX
/-- the function at f is F, its code object stands -/
def FnAt2 (f : Addr) (F : NF) (H : Hp) : Prop := H f = some (FnO f F) ∧ H F.c = some (CodeO F.c F.qual)
theorem FnAt2.same {f : Addr} {F : NF} {H H' : Hp} (s : Same H H') (h : FnAt2 f F H) : FnAt2 f F H' := ⟨s _ _ h.1, s _ _ h.2⟩
end L3
namespace L3
open PySem PySem.Spec PyProof.Rows L2 Builtin Builtin.ObjectAttr
end L3
namespace L3
open PySem PySem.Spec PyProof.Rows L2 Builtin Builtin.ObjectAttr
end L3
namespace L3
open PySem PySem.Spec PyProof.Rows L2
def Kw1 (params : Arguments) (body : List Stmt) (scope : Scope) (x : Str) : Prop := ∀ (qual : Str) (kV doc pm : Value) (an : Option Addr) (cda ct : Value) (cc : Addr) (s : Shared) (e v : Value), BindsTo s (PySem.W.ksFn "__init__" qual params body scope .none kV doc pm an cda ct cc) ⟨[e], [(x, v)]⟩ [(("self" : Str), e), (x, v)]
def Kw2 (params : Arguments) (body : List Stmt) (scope : Scope) (x y : Str) : Prop := ∀ (qual : Str) (kV doc pm : Value) (an : Option Addr) (cda ct : Value) (cc : Addr) (s : Shared) (e v u : Value), BindsTo s (PySem.W.ksFn "__init__" qual params body scope .none kV doc pm an cda ct cc) ⟨[e], [(y, u), (x, v)]⟩ [(("self" : Str), e), (x, v), (y, u)]
/-- no defaults -/
def NoDef (K : PySem.W.Frag) (fI : Addr) : Prop := ∀ oc od fd osl, K.lookup fI = some ⟨oc, od, .func fd, osl⟩ → fd.defaults = .none
def Bd0 (body : List Stmt) (scope : Scope) : Prop := ∃ txt kk p0 p1 p2 p3 p4 p5, body = [.Expr (supE txt kk p0 p1 p2 p3 p4) p5] ∧ SupOk scope txt kk p0 p1 p2 p3 p4
def Ek1 (P : Program) (K : PySem.W.Frag) (mg : Str → Option Value) (C : Addr) (x f : Str) : Prop := ∃ fI B newId initId bmB params body scope, ErrT P K mg C fI B newId initId bmB ["self", x] params body scope ∧ Bd1 scope body x f ∧ PySem.W.findIn K (.ref C) f = some none ∧ NoDef K fI ∧ Kw1 params body scope x
def Ek2 (P : Program) (K : PySem.W.Frag) (mg : Str → Option Value) (C : Addr) (x f y f2 : Str) : Prop := ∃ fI B newId initId bmB params body scope, ErrT P K mg C fI B newId initId bmB ["self", x, y] params body scope ∧ Bd2 scope body x f y f2 ∧ (PySem.W.findIn K (.ref C) f = some none ∧ PySem.W.findIn K (.ref C) f2 = some none) ∧ NoDef K fI ∧ Kw2 params body scope x y
def Ek0 (P : Program) (K : PySem.W.Frag) (mg : Str → Option Value) (C : Addr) : Prop := ∃ fI B newId initId bmB params body scope, ErrT P K mg C fI B newId initId bmB ["self"] params body scope ∧ Bd0 body scope
theorem Ek1.er {P : Program} {K : PySem.W.Frag} {mg : Str → Option Value} {C : Addr} {x f : Str} (T : Ek1 P K mg C x f) : Er1 P K mg C x f := by
  obtain ⟨fI, B, newId, initId, bmB, params, body, scope, h1, h2, h3, _⟩ := T
  exact ⟨fI, B, newId, initId, bmB, params, body, scope, h1, h2, h3⟩
theorem Ek2.er {P : Program} {K : PySem.W.Frag} {mg : Str → Option Value} {C : Addr} {x f y f2 : Str} (T : Ek2 P K mg C x f y f2) : Er2 P K mg C x f y f2 := by
  obtain ⟨fI, B, newId, initId, bmB, params, body, scope, h1, h2, ⟨h3, h4⟩, _⟩ := T
  exact ⟨fI, B, newId, initId, bmB, params, body, scope, h1, h2, h3, h4⟩
end L3
namespace L3
open PySem PySem.Spec PyProof.Rows L2
/-- a clause: the class it names, the slot of its name, what its suite does -/
structure Cls1 where
  c : Value
  slot : Option Nat
  ts : Addr → Value → Option Addr → TS
def Cls1.ends (k : Cls1) (D : Ends) : Ends := match k.slot with
  | none => D
  | some i => ⟨fun τ G => D.nx (τ.set i none) G, D.rt, fun τ G => D.bk (τ.set i none) G, fun τ G => D.ct (τ.set i none) G⟩
def Cls1.start (k : Cls1) (a : Addr) (σ : L2.St) : L2.St := match k.slot with
  | none => σ
  | some i => σ.set i (some (.ref a))
/-- what the clauses wish of an error of the body -/
def wMix (K : PySem.W.Frag) (Wout : WX) (D : Ends) : List Cls1 → WX
  | [] => Wout
  | k :: r => fun cls d σ H => ∃ b, PySem.W.exmOne K cls k.c = some b ∧ (b = true → ∀ a, H a = none → k.ts a cls d (k.ends D) (k.start a σ) H) ∧ (b = false → wMix K Wout D r cls d σ H)
/-- a suite that holds an error -/
def SuOk (X : Cx) (b₀ : Stmt) (su : List Stmt) (ts : Addr → Value → Option Addr → TS) : Prop := ∀ (a : Addr) (oe : Obj) (cls : Value) (d : Option Addr) (pn : List (Addr × Obj)), Zc cls d oe → (∃ vs, oe.data = .fields vs) → PSs (X.suite a ((a, oe) :: pn)) (b₀ :: su) (ts a cls d)
inductive MixOk (X : Cx) : List ExceptHandler → List Cls1 → Prop
  | nil : MixOk X [] []
  | bare {x : Str} {c : Value} {ts : Addr → Value → Option Addr → TS} {b₀ : Stmt} {su : List Stmt} {p1 p2 : Pos} {hs : List ExceptHandler} {l : List Cls1} : Names X x c → SuOk X b₀ su ts → MixOk X hs l → MixOk X (.ExceptHandler (some (.Name x p1)) none (b₀ :: su) p2 :: hs) (⟨c, none, ts⟩ :: l)
  | named {x n : Str} {i : Nat} {c : Value} {ts : Addr → Value → Option Addr → TS} {b₀ : Stmt} {su : List Stmt} {p1 p2 : Pos} {hs : List ExceptHandler} {l : List Cls1} : Names X x c → X.N[i]? = some n → X.env.kindOf n = some .local → SuOk X b₀ su ts → MixOk X hs l → MixOk X (.ExceptHandler (some (.Name x p1)) (some n) (b₀ :: su) p2 :: hs) (⟨c, some i, ts⟩ :: l)
section
variable {X : Cx} {pins : List (Addr × Obj)} {σ : L2.St} {H : Hp} {a : Addr} {cls : Value} {d : Option Addr} {B g : Heap} {sI s : Shared}
/-- an error that flies over this frame -/
structure Fly (X : Cx) (pins : List (Addr × Obj)) (σ : L2.St) (H : Hp) (a : Addr) (cls : Value) (d : Option Addr) (B : Heap) (sI s : Shared) (g : Heap) : Prop where
  J : L2.Inv X pins σ H sI
  nb : ∀ b o, sI.heap.get? b = some o → b ∉ frs X.stack → B.get? b = some o
  up : sI.heap.UpToSlots g
  fl : HandSPX.FlyingZ B (X.env :: X.outer) a (Zc cls d) g
  na : H a = none
  os : s.os = sI.os
  ag : AllBare s.gens
theorem Fly.inv (F : Fly X pins σ H a cls d B sI s g) : L2.Inv X pins σ H { s with heap := g } := F.J.landed F.nb F.fl.1 F.up F.os F.ag
theorem Fly.suite (F : Fly X pins σ H a cls d B sI s g) (hf : X.env.frame = some X.env.locals) : ∃ (oe : Obj) (vs : Array Value), g.get? a = some oe ∧ Zc cls d oe ∧ oe.data = .fields vs ∧ L2.Inv (X.suite a ((a, oe) :: (X.pn ++ pins))) [] σ H { s with heap := g } := by
  obtain ⟨oe, vs, h1, h2, h3⟩ := F.fl.there
  have out : a ∉ frs (X.env :: X.outer) := fun m => by
    obtain ⟨_, u, e, no⟩ := F.fl.2.2.1.mem m
    rw [h1] at e
    cases e
    exact no _ h3
  refine ⟨oe, vs, h1, h2, h3, F.inv.suite h1 h3 F.na (fun z => out ?_) fun m => out ?_⟩
  · exact List.mem_filterMap.mpr ⟨_, List.mem_cons_self, by rw [hf, z]⟩
  · obtain ⟨v, m1, m2⟩ := List.mem_filterMap.mp m
    exact List.mem_filterMap.mpr ⟨v, List.mem_cons_of_mem _ m1, m2⟩
/-- the class of a clause is asked -/
theorem Fly.asked (F : Fly X pins σ H a cls d B sI s g) (hf : X.env.frame = some X.env.locals) {x : Str} {c : Value} {b : Bool} {p1 : Pos} (hc : Names X x c) (hb : PySem.W.exmOne X.K cls c = some b) {M : Value → Shared → Prop} {E : Value → Shared → Prop} (k : M c { s with heap := g }) :
    wpAny (model X.prog X.w) (X.A.mark (some (.ref a))) (eval (.Name x p1) X.env) M E { s with heap := g } := by
  obtain ⟨oe, vs, h1, h2, h3, S⟩ := F.suite hf
  obtain ⟨n1, n2, m | ⟨m, n3, n4⟩⟩ := hc
  · exact ld_glob (X := X.suite a ((a, oe) :: (X.pn ++ pins))) S n1 m k n2
  · exact ld_blt (X := X.suite a ((a, oe) :: (X.pn ++ pins))) S n1 m n3 k n4 n2
theorem Fly.match_ (F : Fly X pins σ H a cls d B sI s g) {c : Value} {b : Bool} (hb : PySem.W.exmOne X.K cls c = some b) : PySem.W.Looks (model X.prog X.w) g (excMatches (.ref a) c) b := by
  obtain ⟨oe, vs, h1, h2, h3⟩ := F.fl.there
  refine PySem.W.exm_one F.inv.kIn (fun A' M' E' s1 k q => ?_) hb
  refine wpAny_typeOf_ref (k _ _ h1) ?_
  rw [h2.1]
  exact q
/-- on from here, the frame's flight noted again -/
theorem Fly.on (F : Fly X pins σ H a cls d B sI s g) {g' : Heap} (f : HandSPX.FlyingZ B (X.env :: X.outer) a (Zc cls d) g') (u : g.UpToSlots g') : Fly X pins σ H a cls d B sI s g' := ⟨F.J, F.nb, F.up.trans u, f, F.na, F.os, F.ag⟩
variable {D : Ends} {Wout : WX} {hs : List ExceptHandler} {x n : Str} {i : Nat} {c : Value} {ts : Addr → Value → Option Addr → TS} {b₀ : Stmt} {su : List Stmt} {p1 p2 : Pos} {b : Bool}
/-- no clause is left -/
theorem Fly.out (F : Fly X pins σ H a cls d B sI s g) (st : X.stack = X.env :: X.outer) (hf : X.env.frame = some X.env.locals) (tk : Takes X Wout) (w : Wout cls d σ H) :
    wpAny (model X.prog X.w) X.A (handleBy (.ref a) X.env []) (SP X pins D) X.xe { s with heap := g } := by
  have throw_ : wpAny (model X.prog X.w) X.A (setFlight (.ref a) X.env.frame) (fun _ s4 => wpAny (model X.prog X.w) X.A (throw (.ref a) : Sem Flow) (SP X pins D) X.xe s4) X.xe { s with heap := g } := by
    rw [hf]
    refine HandSPX.setFlight_upZ F.fl fun g4 sk u4 => ?_
    refine wpAny_throw (tk _ _ ⟨a, B, sI, pins, σ, H, cls, d, rfl, F.J, F.nb, F.up.trans u4, .inr (.inr ?_), F.na, F.os, F.ag, w⟩)
    rw [st]
    exact sk
  obtain ⟨_, _, _, oe, vs, tb, _, _, e1, _, e3, e4, _⟩ := id F.fl
  have ne : ¬ ((Value.ref tb == Value.none) = true) := by simp
  refine wpAny_handleBy_nil ?_
  unfold PySem.passOn
  refine wpAny_bind (wpAny_field e1 e3 e4 ?_)
  rw [if_neg ne]
  first
    | exact wpAny_bind throw_
    | exact wpAny_bind (wpAny_pure (wpAny_bind throw_))
/-- a clause without a name -/
theorem Fly.bare (F : Fly X pins σ H a cls d B sI s g) (hf : X.env.frame = some X.env.locals) (hc : Names X x c) (hsu : SuOk X b₀ su ts) (hb : PySem.W.exmOne X.K cls c = some b) (yes : b = true → ts a cls d D σ H)
    (no : b = false → wpAny (model X.prog X.w) X.A (handleBy (.ref a) X.env hs) (SP X pins D) X.xe { s with heap := g }) :
    wpAny (model X.prog X.w) X.A (handleBy (.ref a) X.env (.ExceptHandler (some (.Name x p1)) none (b₀ :: su) p2 :: hs)) (SP X pins D) X.xe { s with heap := g } := by
  refine wpAny_handleBy_cons (codeAny_handlers_test (F.asked hf hc hb ((F.match_ hb).here ?_))) fun q => nomatch q
  cases b with
  | false => exact no rfl
  | true =>
    refine codeAny_handlers_suite (HandSPX.lands_againZ F.fl fun g4 f4 u4 => ?_)
    have F4 := F.on f4 u4
    have ok := F.J.ok
    obtain ⟨oe, vs, _, z, e3, S⟩ := F4.suite hf
    refine wpAny_mono ((hsu a oe cls d (X.pn ++ pins) z ⟨_, e3⟩).run [] _ _ H _ S (yes rfl)) (fun fl s6 r => ?_) (fun _ _ z => z.elim)
    cases fl with
    | next => obtain ⟨τ, G, S6, q6⟩ := r; exact ⟨τ, G, S6.unsuite ok, q6⟩
    | brk => obtain ⟨τ, G, S6, q6⟩ := r; exact ⟨τ, G, S6.unsuite ok, q6⟩
    | cont => obtain ⟨τ, G, S6, q6⟩ := r; exact ⟨τ, G, S6.unsuite ok, q6⟩
    | ret u => obtain ⟨y, τ, G, S6, ry, q6⟩ := r; exact ⟨y, τ, G, S6.unsuite ok, ry, q6⟩
/-- a clause with a name -/
theorem Fly.named (F : Fly X pins σ H a cls d B sI s g) (hf : X.env.frame = some X.env.locals) (nd : X.N.Nodup) (hc : Names X x c) (hi : X.N[i]? = some n) (hn : X.env.kindOf n = some .local) (hsu : SuOk X b₀ su ts) (hb : PySem.W.exmOne X.K cls c = some b)
    (yes : b = true → ts a cls d ((⟨c, some i, ts⟩ : Cls1).ends D) (σ.set i (some (.ref a))) H)
    (no : b = false → wpAny (model X.prog X.w) X.A (handleBy (.ref a) X.env hs) (SP X pins D) X.xe { s with heap := g }) :
    wpAny (model X.prog X.w) X.A (handleBy (.ref a) X.env (.ExceptHandler (some (.Name x p1)) (some n) (b₀ :: su) p2 :: hs)) (SP X pins D) X.xe { s with heap := g } := by
  refine wpAny_handleBy_cons (codeAny_handlers_test (F.asked hf hc hb ((F.match_ hb).here ?_))) fun q => nomatch q
  cases b with
  | false => exact no rfl
  | true =>
    refine codeAny_handlers_suite_as (HandSPX.lands_againZ F.fl fun g4 f4 u4 => ?_)
    have F4 := F.on f4 u4
    have ok := F.J.ok
    obtain ⟨oe, vs, _, z, e3, S⟩ := F4.suite hf
    refine store_ok (X := X.suite a ((a, oe) :: (X.pn ++ pins))) (v := .ref a) S nd hi (.inl hn) rfl (fun s5 S5 => ?_) (.inr hn)
    refine wpAny_mono ((hsu a oe cls d (X.pn ++ pins) z ⟨_, e3⟩).run [] s5 _ H _ S5 (yes rfl)) (fun fl s6 r => ?_) (fun _ _ z => z.elim)
    cases fl with
    | next => obtain ⟨τ, G, S6, q6⟩ := r; exact gone_ok (S6.unsuite ok) nd hi hn fun s7 J7 => ⟨_, _, J7, q6⟩
    | brk => obtain ⟨τ, G, S6, q6⟩ := r; exact gone_ok (S6.unsuite ok) nd hi hn fun s7 J7 => ⟨_, _, J7, q6⟩
    | cont => obtain ⟨τ, G, S6, q6⟩ := r; exact gone_ok (S6.unsuite ok) nd hi hn fun s7 J7 => ⟨_, _, J7, q6⟩
    | ret u => obtain ⟨y, τ, G, S6, ry, q6⟩ := r; exact gone_ok (S6.unsuite ok) nd hi hn fun s7 J7 => ⟨_, _, _, J7, ry, q6⟩
theorem Fly.all (F : Fly X pins σ H a cls d B sI s g) (st : X.stack = X.env :: X.outer) (hf : X.env.frame = some X.env.locals) (nd : X.N.Nodup) (tk : Takes X Wout) : ∀ {hs : List ExceptHandler} {l : List Cls1}, MixOk X hs l → wMix X.K Wout D l cls d σ H →
    wpAny (model X.prog X.w) X.A (handleBy (.ref a) X.env hs) (SP X pins D) X.xe { s with heap := g }
  | _, _, .nil, w => F.out st hf tk w
  | _, _, .bare hc hsu r, ⟨_, hb, yes, no⟩ => F.bare hf hc hsu hb (fun e => yes e a F.na) fun e => F.all st hf nd tk r (no e)
  | _, _, .named hc hi hn hsu r, ⟨_, hb, yes, no⟩ => F.named hf nd hc hi hn hsu hb (fun e => yes e a F.na) fun e => F.all st hf nd tk r (no e)
end
end L3
namespace L3
open PySem PySem.Spec PyProof.Rows L2
section
variable {X : Cx} {pins : List (Addr × Obj)} {σ : L2.St} {H : Hp} {s : Shared}
/-- the error is let go -/
theorem err_inv0 {H1 : Hp} {s1 s' : Shared} {a : Addr} (I1 : L2.Inv X pins σ H1 s1) (ha : s1.heap.objs.size ≤ a) (k : ∀ b o, s1.heap.get? b = some o → s'.heap.get? b = some o) :
    ∃ G, L2.Inv X pins σ H1 { s1 with heap := G, toks := s'.toks } ∧ (∀ b o, G.get? b = some o → s'.heap.get? b = some o) ∧ G.get? a = none ∧ H1 a = none := by
  obtain ⟨G, g1, g2⟩ := restrict s'.heap fun b => decide (b ≠ a)
  have gk : ∀ b, b ≠ a → G.get? b = s'.heap.get? b := fun b hb => g1 b (decide_eq_true hb)
  refine ⟨G, I1.kept fun b o z => ?_, fun b o z => ?_, g2 a (by simp), I1.hok.fresh ha⟩
  · rw [gk b (Nat.ne_of_lt (Nat.lt_of_lt_of_le (Heap.lt_size z) ha))]
    exact k b o z
  · by_cases hb : b = a
    · rw [hb, g2 a (by simp)] at z
      cases z
    · rw [← gk b hb]
      exact z
end
def tMk0 (C : Addr) : L2.St → Hp → XK → Prop := fun _ H Q => Q (.ref C) none H
section
variable {X : Cx} {C : Addr} {cn : Str} {p pos pos2 : Pos} {W : WX}
theorem pmk_err0 {fI : Addr} {B newId initId : String} {bmB : List Value} {params : Arguments} {body : List Stmt} {scope : Scope} {p0 p1 p2 p3 p4 p5 : Pos} {kk : Nat} {txt : Str} (T : ErrT X.prog X.K X.mg C fI B newId initId bmB ["self"] params body scope) (hev : SupOk scope txt kk p0 p1 p2 p3 p4) (hbody : body = [.Expr (supE txt kk p0 p1 p2 p3 p4) p5]) (hr : Room 1 X.A) (hg : Gl X cn) (hm : X.mg cn = some (.ref C))
    (hdb : (cn == ("__debug__" : Str)) = false := by decide) : PMk X (.Call (.Name cn p) [] [] pos) (tMk0 C) := by
  intro pins s σ H Q I h
  refine wpAny_Call_Name_kw (ld_glob I hg hm ?_ hdb)
  refine PySem.W.callWith_K0 I.kIn T.f.kC ?_
  refine err_make0 T hev hbody hr I fun a t s' z1 z4 z5 z7 z8 => ?_
  obtain ⟨G, J, kG, ge, na⟩ := err_inv0 I z1 z4
  exact ⟨a, _, _, _, _, .ref C, none, rfl, J, kG, ge, z5, ⟨rfl, rfl⟩, rfl, rfl, na, z8, by rw [z7]; exact I.bare, raises_own T.f.exC T.f.tyC, h⟩
theorem ps_raise0 (hc : X.calm = true) (T : Ek0 X.prog X.K X.mg C) (hr : Room 1 X.A) (tk : Takes X W) (hm : X.mg cn = some (.ref C)) (hg : Gl X cn := by rfl) (hdb : (cn == ("__debug__" : Str)) = false := by decide) :
    PS X (.Raise (some (.Call (.Name cn p) [] [] pos)) none pos2) (fun _ σ H => tMk0 C σ H fun cls d H' => W cls d σ H') := by
  obtain ⟨fI, B, newId, initId, bmB, params, body, scope, T, ⟨txt, kk, p0, p1, p2, p3, p4, p5, hb, hev⟩⟩ := T
  exact ps_raise hc tk (pmk_err0 T hev hb hr hg hm hdb)
end
end L3
namespace PySem.SeqAt
open PySem.Meets PySem.MeetsSeq MeetsSeq2 MeetsSeq3 SeqRoads2
end PySem.SeqAt
namespace L3
open PySem PySem.Spec PyProof.Rows L2
/-- the name of the data's type -/
def tyD : PyData → String
  | .none => "NoneType"
  | .bool _ => "bool"
  | .int _ => "int"
  | .str _ => "str"
  | .list _ => "list"
  | .tuple _ => "tuple"
  | .dict _ => "dict"
theorem tyx_sqL {K : PySem.W.Frag} {H : Hp} {a : Addr} {xs : List V} (h : SqL K H a xs) : TyX K H (.ref a) (.type "list") := by
  rcases h with (h | ⟨o, h⟩) | ⟨o, its, n, hk, hc, _⟩
  · exact .base (.lst h)
  · exact .base (.frz h)
  · exact .kList hk hc
theorem tyx_sqT {K : PySem.W.Frag} {H : Hp} {a : Addr} {xs : List V} (h : SqT K H a xs) : TyX K H (.ref a) (.type "tuple") := by
  rcases h with (h | ⟨o, h⟩) | ⟨o, its, n, hk, hc, _⟩
  · exact .base (.tup h)
  · exact .fTuple h
  · exact .kTuple hk hc
theorem tyx_dp {K : PySem.W.Frag} {H : Hp} {v : V} {d : PyData} (h : Dp K H v d) : TyX K H v (.type (tyD d)) := by
  cases h with
  | non => exact .base .non
  | bl b => exact .base (.bl b)
  | int i => exact .base (.int i)
  | str x => exact .base (.str x)
  | lst h _ => exact tyx_sqL h
  | tup h _ => exact tyx_sqT h
theorem tyx_dpD {K : PySem.W.Frag} {H : Hp} {v : V} {d : PyData} (h : DpD K H v d) : TyX K H v (.type (tyD d)) := by
  cases h with
  | data h => exact tyx_dp h
  | lst h _ => exact tyx_sqL h
  | tup h _ => exact tyx_sqT h
  | dct h _ e => subst e; exact .base (.dK h)
/-- what data of a kind is -/
theorem DpD.str_inv {K : PySem.W.Frag} {H : Hp} {v : V} {x : Str} (h : DpD K H v (.str x)) : v = .str x := by
  cases h with
  | data h => cases h; rfl
theorem DpD.int_inv {K : PySem.W.Frag} {H : Hp} {v : V} {i : Int} (h : DpD K H v (.int i)) : v = .int i := by
  cases h with
  | data h => cases h; rfl
end L3
namespace PySem.SeqAt
open AutoSeq1 (wpAny_loadPart')
open MeetsSeq
end PySem.SeqAt
namespace L3
open PySem PySem.Spec PyProof.Rows L2
end L3
namespace L3
open PySem PySem.Spec PyProof.Rows L2
/-- looked for, and not there -/
def noneIn : Option (Option Value) → Bool
  | some none => true
  | _ => false
theorem noneIn_eq {x : Option (Option Value)} (h : noneIn x = true) : x = some none := by
  match x, h with
  | some none, _ => rfl
end L3
namespace Lw
open PySem PySem.Spec PyProof.Rows L2 L3
def topS (i : Nat) : Stmt := PySem.Challenge.pw_missedparts_k97_desk_told_and_refused.main.body.getD i (.Pass ⟨0, 0, 0, 0⟩)
abbrev s_is_integer : Stmt := topS 21
abbrev s_is_count : Stmt := topS 22
abbrev s_is_list : Stmt := topS 23
abbrev s_is_text : Stmt := topS 24
abbrev s_are_letters : Stmt := topS 25
abbrev s_is_text_over : Stmt := topS 26
abbrev s_want_few : Stmt := topS 27
abbrev s_is_row : Stmt := topS 29
abbrev s_want_machine : Stmt := topS 30
abbrev s_met_from : Stmt := topS 31
abbrev s_want_text : Stmt := topS 34
abbrev s_want_letter : Stmt := topS 35
abbrev s_want_place : Stmt := topS 36
abbrev s_want_same : Stmt := topS 37
abbrev s_want_right : Stmt := topS 38
abbrev s_led : Stmt := topS 39
abbrev s_is_taken : Stmt := topS 40
abbrev s_is_so : Stmt := topS 42
abbrev s_paired_by : Stmt := topS 43
abbrev s_lists_of : Stmt := topS 45
abbrev s_want_listed : Stmt := topS 46
abbrev s_turned_by : Stmt := topS 47
abbrev s_turned : Stmt := topS 48
abbrev s_redirected : Stmt := topS 49
abbrev s_law_pot : Stmt := topS 54
abbrev s_law_draw : Stmt := topS 55
abbrev s_law_pick : Stmt := topS 56
abbrev s_law_met : Stmt := topS 57
abbrev s_law_lines : Stmt := topS 58
abbrev s_law_machine : Stmt := topS 59
abbrev s_law_led : Stmt := topS 60
abbrev s_law_flipped : Stmt := topS 61
abbrev s_law_heard : Stmt := topS 62
abbrev s_law_joined : Stmt := topS 63
abbrev s_law_cut : Stmt := topS 64
abbrev s_law_stands : Stmt := topS 65
abbrev s_law_refusals_right : Stmt := topS 66
abbrev s_law_change : Stmt := topS 67
abbrev s_law_right : Stmt := topS 68
abbrev s_law : Stmt := topS 69
theorem sc_is_integer : FnScope ["value"] ["value"] (defScope s_is_integer) := ⟨rfl, rfl, rfl, by decide +kernel, rfl, by decide +kernel, by decide +kernel⟩
theorem sc_is_count : FnScope ["value"] ["value"] (defScope s_is_count) := ⟨rfl, rfl, rfl, by decide +kernel, rfl, by decide +kernel, by decide +kernel⟩
theorem sc_is_list : FnScope ["value"] ["value"] (defScope s_is_list) := ⟨rfl, rfl, rfl, by decide +kernel, rfl, by decide +kernel, by decide +kernel⟩
theorem sc_is_text : FnScope ["value", "sign"] ["value"] (defScope s_is_text) := ⟨rfl, rfl, rfl, by decide +kernel, rfl, by decide +kernel, by decide +kernel⟩
theorem sc_are_letters : FnScope ["value"] ["value"] (defScope s_are_letters) := ⟨rfl, rfl, rfl, by decide +kernel, rfl, by decide +kernel, by decide +kernel⟩
theorem sc_is_text_over : FnScope ["letters", "value", "sign"] ["letters", "value"] (defScope s_is_text_over) := ⟨rfl, rfl, rfl, by decide +kernel, rfl, by decide +kernel, by decide +kernel⟩
theorem sc_want_few : FnScope ["what", "many", "limit"] ["what", "many", "limit"] (defScope s_want_few) := ⟨rfl, rfl, rfl, by decide +kernel, rfl, by decide +kernel, by decide +kernel⟩
theorem sc_is_row : FnScope ["value", "size", "many", "goal"] ["value", "size", "many"] (defScope s_is_row) := ⟨rfl, rfl, rfl, by decide +kernel, rfl, by decide +kernel, by decide +kernel⟩
theorem sc_want_machine : FnScope ["letters", "rows", "kinds", "position", "row", "kind"] ["letters", "rows", "kinds"] (defScope s_want_machine) := ⟨rfl, rfl, rfl, by decide +kernel, rfl, by decide +kernel, by decide +kernel⟩
theorem sc_met_from : FnScope ["rows", "start", "found", "at", "goal"] ["rows", "start"] (defScope s_met_from) := ⟨rfl, rfl, rfl, by decide +kernel, rfl, by decide +kernel, by decide +kernel⟩
theorem sc_want_text : FnScope ["letters", "text"] ["letters", "text"] (defScope s_want_text) := ⟨rfl, rfl, rfl, by decide +kernel, rfl, by decide +kernel, by decide +kernel⟩
theorem sc_want_letter : FnScope ["letters", "letter"] ["letters", "letter"] (defScope s_want_letter) := ⟨rfl, rfl, rfl, by decide +kernel, rfl, by decide +kernel, by decide +kernel⟩
theorem sc_want_place : FnScope ["machine", "place"] ["machine", "place"] (defScope s_want_place) := ⟨rfl, rfl, rfl, by decide +kernel, rfl, by decide +kernel, by decide +kernel⟩
theorem sc_want_same : FnScope ["one", "other"] ["one", "other"] (defScope s_want_same) := ⟨rfl, rfl, rfl, by decide +kernel, rfl, by decide +kernel, by decide +kernel⟩
theorem sc_want_right : FnScope ["machine", "value"] ["machine", "value"] (defScope s_want_right) := ⟨rfl, rfl, rfl, by decide +kernel, rfl, by decide +kernel, by decide +kernel⟩
theorem sc_led : FnScope ["machine", "place", "text", "here", "letter"] ["machine", "place", "text"] (defScope s_led) := ⟨rfl, rfl, rfl, by decide +kernel, rfl, by decide +kernel, by decide +kernel⟩
theorem sc_is_taken : FnScope ["machine", "text"] ["machine", "text"] (defScope s_is_taken) := ⟨rfl, rfl, rfl, by decide +kernel, rfl, by decide +kernel, by decide +kernel⟩
theorem sc_is_so : FnScope ["rule", "one", "other"] ["rule", "one", "other"] (defScope s_is_so) := ⟨rfl, rfl, rfl, by decide +kernel, rfl, by decide +kernel, by decide +kernel⟩
theorem sc_paired_by : FnScope ["one", "other", "rule", "pairs", "at", "mine", "its", "pair", "rows", "kinds"] ["one", "other", "rule"] (defScope s_paired_by) := ⟨rfl, rfl, rfl, by decide +kernel, rfl, by decide +kernel, by decide +kernel⟩
theorem sc_lists_of : FnScope ["rows", "row"] ["rows"] (defScope s_lists_of) := ⟨rfl, rfl, rfl, by decide +kernel, rfl, by decide +kernel, by decide +kernel⟩
theorem sc_want_listed : FnScope ["machine", "places", "position", "place"] ["machine", "places"] (defScope s_want_listed) := ⟨rfl, rfl, rfl, by decide +kernel, rfl, by decide +kernel, by decide +kernel⟩
theorem sc_turned_by : FnScope ["machine", "places", "kinds", "place", "kind"] ["machine", "places"] (defScope s_turned_by) := ⟨rfl, rfl, rfl, by decide +kernel, rfl, by decide +kernel, by decide +kernel⟩
theorem sc_turned : FnScope ["machine", "places"] ["machine", "places"] (defScope s_turned) := ⟨rfl, rfl, rfl, by decide +kernel, rfl, by decide +kernel, by decide +kernel⟩
theorem sc_redirected : FnScope ["machine", "place", "letter", "goal", "rows"] ["machine", "place", "letter", "goal"] (defScope s_redirected) := ⟨rfl, rfl, rfl, by decide +kernel, rfl, by decide +kernel, by decide +kernel⟩
theorem sc_law_pot : FnScope ["_law_script", "_law_k", "_law_cell"] ["_law_script", "_law_k"] (defScope s_law_pot) := ⟨rfl, rfl, rfl, by decide +kernel, rfl, by decide +kernel, by decide +kernel⟩
theorem sc_law_draw : FnScope ["_law_pot_here", "_law_sides", "_law_digit"] ["_law_pot_here", "_law_sides"] (defScope s_law_draw) := ⟨rfl, rfl, rfl, by decide +kernel, rfl, by decide +kernel, by decide +kernel⟩
theorem sc_law_pick : FnScope ["_law_pot_here", "_law_some"] ["_law_pot_here", "_law_some"] (defScope s_law_pick) := ⟨rfl, rfl, rfl, by decide +kernel, rfl, by decide +kernel, by decide +kernel⟩
theorem sc_law_met : FnScope ["_law_lines_here", "_law_sorts", "_law_met_here", "_law_turn", "_law_at", "_law_goal", "_law_place"] ["_law_lines_here", "_law_sorts"] (defScope s_law_met) := ⟨rfl, rfl, rfl, by decide +kernel, rfl, by decide +kernel, by decide +kernel⟩
theorem sc_law_lines : FnScope ["_law_pot_here", "_law_size", "_law_most", "_law_many", "_law_way", "_law_letter", "_law_place", "_law_steps"] ["_law_pot_here", "_law_size", "_law_most"] (defScope s_law_lines) := ⟨rfl, rfl, rfl, by decide +kernel, rfl, by decide +kernel, by decide +kernel⟩
theorem sc_law_machine : FnScope ["_law_pot_here", "_law_signs", "_law_most", "_law_lines_here", "_law_met_here", "_law_line"] ["_law_pot_here", "_law_signs", "_law_most"] (defScope s_law_machine) := ⟨rfl, rfl, rfl, by decide +kernel, rfl, by decide +kernel, by decide +kernel⟩
theorem sc_law_led : FnScope ["_law_thing", "_law_place", "_law_letter", "_law_goal", "_law_lines_here"] ["_law_thing", "_law_place", "_law_letter", "_law_goal"] (defScope s_law_led) := ⟨rfl, rfl, rfl, by decide +kernel, rfl, by decide +kernel, by decide +kernel⟩
theorem sc_law_flipped : FnScope ["_law_thing", "_law_place", "_law_at", "_law_kind"] ["_law_thing", "_law_place"] (defScope s_law_flipped) := ⟨rfl, rfl, rfl, by decide +kernel, rfl, by decide +kernel, by decide +kernel⟩
theorem sc_law_heard : FnScope ["_law_call", "_law_told", "e"] ["_law_call"] (defScope s_law_heard) := ⟨rfl, rfl, rfl, by decide +kernel, rfl, by decide +kernel, by decide +kernel⟩
theorem sc_law_joined : FnScope ["_law_held", "_law_thing"] ["_law_held", "_law_thing"] (defScope s_law_joined) := ⟨rfl, rfl, rfl, by decide +kernel, rfl, by decide +kernel, by decide +kernel⟩
theorem sc_law_cut : FnScope ["_law_held", "_law_thing"] ["_law_held", "_law_thing"] (defScope s_law_cut) := ⟨rfl, rfl, rfl, by decide +kernel, rfl, by decide +kernel, by decide +kernel⟩
theorem sc_law_stands : FnScope ["_law_pot_here", "_law_held", "_law_one", "_law_other", "_law_many", "_law_turn", "_law_text", "_law_more", "_law_mark", "_law_value"] ["_law_pot_here", "_law_held", "_law_one", "_law_other", "_law_many"] (defScope s_law_stands) := ⟨rfl, rfl, rfl, by decide +kernel, rfl, by decide +kernel, by decide +kernel⟩
theorem sc_law_refusals_right : FnScope ["_law_pot_here", "_law_held", "_law_one", "_law_other", "_law_odd", "_law_wrong", "_law_strange", "_law_due", "_law_value"] ["_law_pot_here", "_law_held", "_law_one", "_law_other"] (defScope s_law_refusals_right) := ⟨rfl, rfl, rfl, by decide +kernel, rfl, by decide +kernel, by decide +kernel⟩
theorem sc_law_change : FnScope ["_law_pot_here", "_law_held", "_law_one", "_law_other", "_law_which", "_law_kind", "_law_thing", "_law_word", "_law_place", "_law_told", "_law_later", "_law_letter", "_law_goal", "_law_more", "_law_tool"] ["_law_pot_here", "_law_held", "_law_one", "_law_other"] (defScope s_law_change) := ⟨rfl, rfl, rfl, by decide +kernel, rfl, by decide +kernel, by decide +kernel⟩
theorem sc_law_right : FnScope ["_law_pot_here", "_law_signs", "_law_one", "_law_other", "_law_held", "_law_near", "_law_past", "_law_seen", "_law_turn", "_law_kind", "_law_is_so", "_law_later", "_law_odd", "_law_strange"] ["_law_pot_here"] (defScope s_law_right) := ⟨rfl, rfl, rfl, by decide +kernel, rfl, by decide +kernel, by decide +kernel⟩
theorem sc_law : FnScope ["_law_script", "_law_k"] ["_law_script"] (defScope s_law) := ⟨rfl, rfl, rfl, by decide +kernel, rfl, by decide +kernel, by decide +kernel⟩
abbrev s_Machine_init : Stmt := inClass (topS 33) 1
theorem sc_Machine_init : FnScope ["self", "letters", "rows", "kinds", "met", "place", "row"] ["self", "letters", "rows", "kinds"] (defScope s_Machine_init) := ⟨rfl, rfl, rfl, by decide +kernel, rfl, by decide +kernel, by decide +kernel⟩
abbrev s_Machine_rows : Stmt := inClass (topS 33) 4
theorem sc_Machine_rows : FnScope ["self", "row"] ["self"] (defScope s_Machine_rows) := ⟨rfl, rfl, rfl, by decide +kernel, rfl, by decide +kernel, by decide +kernel⟩
abbrev s_Machine_kinds : Stmt := inClass (topS 33) 5
theorem sc_Machine_kinds : FnScope ["self"] ["self"] (defScope s_Machine_kinds) := ⟨rfl, rfl, rfl, by decide +kernel, rfl, by decide +kernel, by decide +kernel⟩
abbrev s_Machine_takes : Stmt := inClass (topS 33) 8
theorem sc_Machine_takes : FnScope ["self", "text"] ["self", "text"] (defScope s_Machine_takes) := ⟨rfl, rfl, rfl, by decide +kernel, rfl, by decide +kernel, by decide +kernel⟩
abbrev s_Machine_len : Stmt := inClass (topS 33) 14
theorem sc_Machine_len : FnScope ["self"] ["self"] (defScope s_Machine_len) := ⟨rfl, rfl, rfl, by decide +kernel, rfl, by decide +kernel, by decide +kernel⟩
abbrev s_Machine_contains : Stmt := inClass (topS 33) 15
abbrev s_Machine_eq : Stmt := inClass (topS 33) 16
theorem sc_Machine_eq : FnScope ["self", "other"] ["self", "other"] (defScope s_Machine_eq) := ⟨rfl, rfl, rfl, by decide +kernel, rfl, by decide +kernel, by decide +kernel⟩
abbrev s_Machine_repr : Stmt := inClass (topS 33) 17
theorem sc_Machine_repr : FnScope ["self"] ["self"] (defScope s_Machine_repr) := ⟨rfl, rfl, rfl, by decide +kernel, rfl, by decide +kernel, by decide +kernel⟩
abbrev s_Machine_or : Stmt := inClass (topS 33) 19
theorem sc_Machine_or : FnScope ["self", "other"] ["self", "other"] (defScope s_Machine_or) := ⟨rfl, rfl, rfl, by decide +kernel, rfl, by decide +kernel, by decide +kernel⟩
abbrev s_Machine_sub : Stmt := inClass (topS 33) 20
theorem sc_Machine_sub : FnScope ["self", "other"] ["self", "other"] (defScope s_Machine_sub) := ⟨rfl, rfl, rfl, by decide +kernel, rfl, by decide +kernel, by decide +kernel⟩
abbrev s_Machine_letters : Stmt := inClass (topS 33) 3
theorem sc_Machine_letters : FnScope ["self"] ["self"] (defScope s_Machine_letters) := ⟨rfl, rfl, rfl, by decide +kernel, rfl, by decide +kernel, by decide +kernel⟩
abbrev s_Desk_init : Stmt := inClass (topS 52) 0
theorem sc_Desk_init : FnScope ["self", "one", "other", "machine"] ["self", "one", "other"] (defScope s_Desk_init) := ⟨rfl, rfl, rfl, by decide +kernel, rfl, by decide +kernel, by decide +kernel⟩
abbrev s_Desk_put : Stmt := inClass (topS 52) 1
theorem sc_Desk_put : FnScope ["self", "one", "other"] ["self", "one", "other"] (defScope s_Desk_put) := ⟨rfl, rfl, rfl, by decide +kernel, rfl, by decide +kernel, by decide +kernel⟩
abbrev s_Desk_named : Stmt := inClass (topS 52) 2
theorem sc_Desk_named : FnScope ["self", "which"] ["self", "which"] (defScope s_Desk_named) := ⟨rfl, rfl, rfl, by decide +kernel, rfl, by decide +kernel, by decide +kernel⟩
abbrev s_Desk_put_named : Stmt := inClass (topS 52) 3
theorem sc_Desk_put_named : FnScope ["self", "which", "machine"] ["self", "which", "machine"] (defScope s_Desk_put_named) := ⟨rfl, rfl, rfl, by decide +kernel, rfl, by decide +kernel, by decide +kernel⟩
abbrev s_Desk_turn : Stmt := inClass (topS 52) 4
theorem sc_Desk_turn : FnScope ["self", "which", "place", "machine"] ["self", "which", "place"] (defScope s_Desk_turn) := ⟨rfl, rfl, rfl, by decide +kernel, rfl, by decide +kernel, by decide +kernel⟩
abbrev s_Desk_lead : Stmt := inClass (topS 52) 5
theorem sc_Desk_lead : FnScope ["self", "which", "place", "letter", "goal"] ["self", "which", "place", "letter", "goal"] (defScope s_Desk_lead) := ⟨rfl, rfl, rfl, by decide +kernel, rfl, by decide +kernel, by decide +kernel⟩
abbrev s_Desk_swap : Stmt := inClass (topS 52) 6
theorem sc_Desk_swap : FnScope ["self"] ["self"] (defScope s_Desk_swap) := ⟨rfl, rfl, rfl, by decide +kernel, rfl, by decide +kernel, by decide +kernel⟩
abbrev s_Desk_undo : Stmt := inClass (topS 52) 7
theorem sc_Desk_undo : FnScope ["self"] ["self"] (defScope s_Desk_undo) := ⟨rfl, rfl, rfl, by decide +kernel, rfl, by decide +kernel, by decide +kernel⟩
abbrev s_Desk_iadd : Stmt := inClass (topS 52) 8
theorem sc_Desk_iadd : FnScope ["self", "machine"] ["self", "machine"] (defScope s_Desk_iadd) := ⟨rfl, rfl, rfl, by decide +kernel, rfl, by decide +kernel, by decide +kernel⟩
abbrev s_Desk_isub : Stmt := inClass (topS 52) 9
theorem sc_Desk_isub : FnScope ["self", "machine"] ["self", "machine"] (defScope s_Desk_isub) := ⟨rfl, rfl, rfl, by decide +kernel, rfl, by decide +kernel, by decide +kernel⟩
abbrev s_Desk_getitem : Stmt := inClass (topS 52) 10
theorem sc_Desk_getitem : FnScope ["self", "text"] ["self", "text"] (defScope s_Desk_getitem) := ⟨rfl, rfl, rfl, by decide +kernel, rfl, by decide +kernel, by decide +kernel⟩
abbrev s_Desk_contains : Stmt := inClass (topS 52) 11
theorem sc_Desk_contains : FnScope ["self", "value"] ["self", "value"] (defScope s_Desk_contains) := ⟨rfl, rfl, rfl, by decide +kernel, rfl, by decide +kernel, by decide +kernel⟩
abbrev s_Desk_len : Stmt := inClass (topS 52) 13
theorem sc_Desk_len : FnScope ["self"] ["self"] (defScope s_Desk_len) := ⟨rfl, rfl, rfl, by decide +kernel, rfl, by decide +kernel, by decide +kernel⟩
/-- what the top has left of a method -/
structure Dm (K : PySem.W.Frag) (C : Addr) (x qual : Str) (st : Stmt) (ps : List Str) (f : Addr) (fd : FuncData) : Prop where
  F : Fun K x qual st f fd
  b : L2.Binds K fd ps []
  m : Meth K C x f
/-- .. of a property -/
structure Dp1 (K : PySem.W.Frag) (C : Addr) (x qual : Str) (st : Stmt) (p f : Addr) (fd : FuncData) : Prop where
  F : Fun K x qual st f fd
  b : L2.Binds K fd ["self"] []
  p : PropOf K C x p f
/-- what the top has left of a def -/
structure Dn (K : PySem.W.Frag) (mg : Str → Option Value) (x : Str) (st : Stmt) (ps : List Str) (f : Addr) (fd : FuncData) : Prop where
  F : Fun K x x st f fd
  b : L2.Binds K fd ps []
  g : mg x = some (.ref f)
abbrev s_InvalidText_init : Stmt := inClass (topS 3) 0
theorem es_InvalidText : ErrS ["self", "value"] (defArgs s_InvalidText_init) (defScope s_InvalidText_init) := ⟨rfl, rfl, by decide +kernel, ⟨_, rfl, rfl⟩, rfl, by decide, rfl, by decide +kernel, rfl, rfl⟩
theorem kw_InvalidText : Kw1 (defArgs s_InvalidText_init) (defBody s_InvalidText_init) (defScope s_InvalidText_init) "value" := fun _ _ _ _ _ _ _ _ _ _ _ => .of_eq rfl
theorem eb_InvalidText : Bd1 (defScope s_InvalidText_init) (defBody s_InvalidText_init) "value" "value" := ⟨_, _, _, _, _, _, _, _, _, _, _, _, rfl, fun _ _ _ _ _ => ⟨_, rfl⟩, ⟨rfl, by decide, fun _ _ _ _ _ => rfl⟩⟩
abbrev s_InvalidLetter_init : Stmt := inClass (topS 5) 0
theorem es_InvalidLetter : ErrS ["self", "value"] (defArgs s_InvalidLetter_init) (defScope s_InvalidLetter_init) := ⟨rfl, rfl, by decide +kernel, ⟨_, rfl, rfl⟩, rfl, by decide, rfl, by decide +kernel, rfl, rfl⟩
theorem kw_InvalidLetter : Kw1 (defArgs s_InvalidLetter_init) (defBody s_InvalidLetter_init) (defScope s_InvalidLetter_init) "value" := fun _ _ _ _ _ _ _ _ _ _ _ => .of_eq rfl
theorem eb_InvalidLetter : Bd1 (defScope s_InvalidLetter_init) (defBody s_InvalidLetter_init) "value" "value" := ⟨_, _, _, _, _, _, _, _, _, _, _, _, rfl, fun _ _ _ _ _ => ⟨_, rfl⟩, ⟨rfl, by decide, fun _ _ _ _ _ => rfl⟩⟩
abbrev s_InvalidPlace_init : Stmt := inClass (topS 6) 0
theorem es_InvalidPlace : ErrS ["self", "value"] (defArgs s_InvalidPlace_init) (defScope s_InvalidPlace_init) := ⟨rfl, rfl, by decide +kernel, ⟨_, rfl, rfl⟩, rfl, by decide, rfl, by decide +kernel, rfl, rfl⟩
theorem kw_InvalidPlace : Kw1 (defArgs s_InvalidPlace_init) (defBody s_InvalidPlace_init) (defScope s_InvalidPlace_init) "value" := fun _ _ _ _ _ _ _ _ _ _ _ => .of_eq rfl
theorem eb_InvalidPlace : Bd1 (defScope s_InvalidPlace_init) (defBody s_InvalidPlace_init) "value" "value" := ⟨_, _, _, _, _, _, _, _, _, _, _, _, rfl, fun _ _ _ _ _ => ⟨_, rfl⟩, ⟨rfl, by decide, fun _ _ _ _ _ => rfl⟩⟩
abbrev s_InvalidMachine_init : Stmt := inClass (topS 7) 0
theorem es_InvalidMachine : ErrS ["self", "value"] (defArgs s_InvalidMachine_init) (defScope s_InvalidMachine_init) := ⟨rfl, rfl, by decide +kernel, ⟨_, rfl, rfl⟩, rfl, by decide, rfl, by decide +kernel, rfl, rfl⟩
theorem kw_InvalidMachine : Kw1 (defArgs s_InvalidMachine_init) (defBody s_InvalidMachine_init) (defScope s_InvalidMachine_init) "value" := fun _ _ _ _ _ _ _ _ _ _ _ => .of_eq rfl
theorem eb_InvalidMachine : Bd1 (defScope s_InvalidMachine_init) (defBody s_InvalidMachine_init) "value" "value" := ⟨_, _, _, _, _, _, _, _, _, _, _, _, rfl, fun _ _ _ _ _ => ⟨_, rfl⟩, ⟨rfl, by decide, fun _ _ _ _ _ => rfl⟩⟩
abbrev s_InvalidCommand_init : Stmt := inClass (topS 8) 0
theorem es_InvalidCommand : ErrS ["self", "value"] (defArgs s_InvalidCommand_init) (defScope s_InvalidCommand_init) := ⟨rfl, rfl, by decide +kernel, ⟨_, rfl, rfl⟩, rfl, by decide, rfl, by decide +kernel, rfl, rfl⟩
theorem kw_InvalidCommand : Kw1 (defArgs s_InvalidCommand_init) (defBody s_InvalidCommand_init) (defScope s_InvalidCommand_init) "value" := fun _ _ _ _ _ _ _ _ _ _ _ => .of_eq rfl
theorem eb_InvalidCommand : Bd1 (defScope s_InvalidCommand_init) (defBody s_InvalidCommand_init) "value" "value" := ⟨_, _, _, _, _, _, _, _, _, _, _, _, rfl, fun _ _ _ _ _ => ⟨_, rfl⟩, ⟨rfl, by decide, fun _ _ _ _ _ => rfl⟩⟩
abbrev s_OtherLetters_init : Stmt := inClass (topS 13) 0
theorem es_OtherLetters : ErrS ["self", "one", "other"] (defArgs s_OtherLetters_init) (defScope s_OtherLetters_init) := ⟨rfl, rfl, by decide +kernel, ⟨_, rfl, rfl⟩, rfl, by decide, rfl, by decide +kernel, rfl, rfl⟩
theorem kw_OtherLetters : Kw2 (defArgs s_OtherLetters_init) (defBody s_OtherLetters_init) (defScope s_OtherLetters_init) "one" "other" := fun _ _ _ _ _ _ _ _ _ _ _ _ => .of_eq rfl
theorem eb_OtherLetters : Bd2 (defScope s_OtherLetters_init) (defBody s_OtherLetters_init) "one" "one" "other" "other" := ⟨_, _, _, _, _, _, _, _, _, _, _, _, _, _, _, _, rfl, fun _ _ _ _ _ => ⟨_, rfl⟩, ⟨rfl, by decide, fun _ _ _ _ _ => rfl⟩, ⟨rfl, by decide, fun _ _ _ _ _ => rfl⟩⟩
abbrev s_NotComeTo_init : Stmt := inClass (topS 14) 0
theorem es_NotComeTo : ErrS ["self", "place"] (defArgs s_NotComeTo_init) (defScope s_NotComeTo_init) := ⟨rfl, rfl, by decide +kernel, ⟨_, rfl, rfl⟩, rfl, by decide, rfl, by decide +kernel, rfl, rfl⟩
theorem kw_NotComeTo : Kw1 (defArgs s_NotComeTo_init) (defBody s_NotComeTo_init) (defScope s_NotComeTo_init) "place" := fun _ _ _ _ _ _ _ _ _ _ _ => .of_eq rfl
theorem eb_NotComeTo : Bd1 (defScope s_NotComeTo_init) (defBody s_NotComeTo_init) "place" "place" := ⟨_, _, _, _, _, _, _, _, _, _, _, _, rfl, fun _ _ _ _ _ => ⟨_, rfl⟩, ⟨rfl, by decide, fun _ _ _ _ _ => rfl⟩⟩
abbrev s_NothingToUndo_init : Stmt := inClass (topS 15) 0
theorem es_NothingToUndo : ErrS ["self"] (defArgs s_NothingToUndo_init) (defScope s_NothingToUndo_init) := ⟨rfl, rfl, by decide +kernel, ⟨_, rfl, rfl⟩, rfl, by decide, rfl, by decide +kernel, rfl, rfl⟩
theorem eb_NothingToUndo : Bd0 (defBody s_NothingToUndo_init) (defScope s_NothingToUndo_init) := ⟨_, _, _, _, _, _, _, _, rfl, fun _ _ _ _ _ => ⟨_, rfl⟩⟩
abbrev PW : Program := PySem.Challenge.pw_missedparts_k97_desk_told_and_refused
structure All (K : PySem.W.Frag) (mg : Str → Option Value) where
  C_InvalidText : Addr
  g_InvalidText : mg "InvalidText" = some (.ref C_InvalidText)
  er_InvalidText : Ek1 PW K mg C_InvalidText "value" "value"
  xf_InvalidText : XfC K C_InvalidText
  xc_InvalidText : ExcC K C_InvalidText
  nf_InvalidText_value : PySem.W.findIn K (.ref C_InvalidText) "value" = some none
  C_InvalidLetter : Addr
  g_InvalidLetter : mg "InvalidLetter" = some (.ref C_InvalidLetter)
  er_InvalidLetter : Ek1 PW K mg C_InvalidLetter "value" "value"
  xf_InvalidLetter : XfC K C_InvalidLetter
  xc_InvalidLetter : ExcC K C_InvalidLetter
  nf_InvalidLetter_value : PySem.W.findIn K (.ref C_InvalidLetter) "value" = some none
  C_InvalidPlace : Addr
  g_InvalidPlace : mg "InvalidPlace" = some (.ref C_InvalidPlace)
  er_InvalidPlace : Ek1 PW K mg C_InvalidPlace "value" "value"
  xf_InvalidPlace : XfC K C_InvalidPlace
  xc_InvalidPlace : ExcC K C_InvalidPlace
  nf_InvalidPlace_value : PySem.W.findIn K (.ref C_InvalidPlace) "value" = some none
  C_InvalidMachine : Addr
  g_InvalidMachine : mg "InvalidMachine" = some (.ref C_InvalidMachine)
  er_InvalidMachine : Ek1 PW K mg C_InvalidMachine "value" "value"
  xf_InvalidMachine : XfC K C_InvalidMachine
  xc_InvalidMachine : ExcC K C_InvalidMachine
  nf_InvalidMachine_value : PySem.W.findIn K (.ref C_InvalidMachine) "value" = some none
  C_InvalidCommand : Addr
  g_InvalidCommand : mg "InvalidCommand" = some (.ref C_InvalidCommand)
  er_InvalidCommand : Ek1 PW K mg C_InvalidCommand "value" "value"
  xf_InvalidCommand : XfC K C_InvalidCommand
  xc_InvalidCommand : ExcC K C_InvalidCommand
  nf_InvalidCommand_value : PySem.W.findIn K (.ref C_InvalidCommand) "value" = some none
  C_OtherLetters : Addr
  g_OtherLetters : mg "OtherLetters" = some (.ref C_OtherLetters)
  er_OtherLetters : Ek2 PW K mg C_OtherLetters "one" "one" "other" "other"
  xf_OtherLetters : XfC K C_OtherLetters
  xc_OtherLetters : ExcC K C_OtherLetters
  nf_OtherLetters_one : PySem.W.findIn K (.ref C_OtherLetters) "one" = some none
  nf_OtherLetters_other : PySem.W.findIn K (.ref C_OtherLetters) "other" = some none
  C_NotComeTo : Addr
  g_NotComeTo : mg "NotComeTo" = some (.ref C_NotComeTo)
  er_NotComeTo : Ek1 PW K mg C_NotComeTo "place" "place"
  xf_NotComeTo : XfC K C_NotComeTo
  xc_NotComeTo : ExcC K C_NotComeTo
  nf_NotComeTo_place : PySem.W.findIn K (.ref C_NotComeTo) "place" = some none
  C_NothingToUndo : Addr
  g_NothingToUndo : mg "NothingToUndo" = some (.ref C_NothingToUndo)
  er_NothingToUndo : Ek0 PW K mg C_NothingToUndo 
  xf_NothingToUndo : XfC K C_NothingToUndo
  xc_NothingToUndo : ExcC K C_NothingToUndo
  f_is_integer : Addr
  d_is_integer : FuncData
  is_integer : Dn K mg "is_integer" s_is_integer ["value"] f_is_integer d_is_integer
  f_is_count : Addr
  d_is_count : FuncData
  is_count : Dn K mg "is_count" s_is_count ["value"] f_is_count d_is_count
  f_is_list : Addr
  d_is_list : FuncData
  is_list : Dn K mg "is_list" s_is_list ["value"] f_is_list d_is_list
  f_is_text : Addr
  d_is_text : FuncData
  is_text : Dn K mg "is_text" s_is_text ["value"] f_is_text d_is_text
  f_are_letters : Addr
  d_are_letters : FuncData
  are_letters : Dn K mg "are_letters" s_are_letters ["value"] f_are_letters d_are_letters
  f_is_text_over : Addr
  d_is_text_over : FuncData
  is_text_over : Dn K mg "is_text_over" s_is_text_over ["letters", "value"] f_is_text_over d_is_text_over
  f_want_few : Addr
  d_want_few : FuncData
  want_few : Dn K mg "want_few" s_want_few ["what", "many", "limit"] f_want_few d_want_few
  f_is_row : Addr
  d_is_row : FuncData
  is_row : Dn K mg "is_row" s_is_row ["value", "size", "many"] f_is_row d_is_row
  f_want_machine : Addr
  d_want_machine : FuncData
  want_machine : Dn K mg "want_machine" s_want_machine ["letters", "rows", "kinds"] f_want_machine d_want_machine
  f_met_from : Addr
  d_met_from : FuncData
  met_from : Dn K mg "met_from" s_met_from ["rows", "start"] f_met_from d_met_from
  f_want_text : Addr
  d_want_text : FuncData
  want_text : Dn K mg "want_text" s_want_text ["letters", "text"] f_want_text d_want_text
  f_want_letter : Addr
  d_want_letter : FuncData
  want_letter : Dn K mg "want_letter" s_want_letter ["letters", "letter"] f_want_letter d_want_letter
  f_want_place : Addr
  d_want_place : FuncData
  want_place : Dn K mg "want_place" s_want_place ["machine", "place"] f_want_place d_want_place
  f_want_same : Addr
  d_want_same : FuncData
  want_same : Dn K mg "want_same" s_want_same ["one", "other"] f_want_same d_want_same
  f_want_right : Addr
  d_want_right : FuncData
  want_right : Dn K mg "want_right" s_want_right ["machine", "value"] f_want_right d_want_right
  f_led : Addr
  d_led : FuncData
  led : Dn K mg "led" s_led ["machine", "place", "text"] f_led d_led
  f_is_taken : Addr
  d_is_taken : FuncData
  is_taken : Dn K mg "is_taken" s_is_taken ["machine", "text"] f_is_taken d_is_taken
  f_is_so : Addr
  d_is_so : FuncData
  is_so : Dn K mg "is_so" s_is_so ["rule", "one", "other"] f_is_so d_is_so
  f_paired_by : Addr
  d_paired_by : FuncData
  paired_by : Dn K mg "paired_by" s_paired_by ["one", "other", "rule"] f_paired_by d_paired_by
  f_lists_of : Addr
  d_lists_of : FuncData
  lists_of : Dn K mg "lists_of" s_lists_of ["rows"] f_lists_of d_lists_of
  f_want_listed : Addr
  d_want_listed : FuncData
  want_listed : Dn K mg "want_listed" s_want_listed ["machine", "places"] f_want_listed d_want_listed
  f_turned_by : Addr
  d_turned_by : FuncData
  turned_by : Dn K mg "turned_by" s_turned_by ["machine", "places"] f_turned_by d_turned_by
  f_turned : Addr
  d_turned : FuncData
  turned : Dn K mg "turned" s_turned ["machine", "places"] f_turned d_turned
  f_redirected : Addr
  d_redirected : FuncData
  redirected : Dn K mg "redirected" s_redirected ["machine", "place", "letter", "goal"] f_redirected d_redirected
  f_law_pot : Addr
  d_law_pot : FuncData
  law_pot : Dn K mg "_law_pot" s_law_pot ["_law_script", "_law_k"] f_law_pot d_law_pot
  f_law_draw : Addr
  d_law_draw : FuncData
  law_draw : Dn K mg "_law_draw" s_law_draw ["_law_pot_here", "_law_sides"] f_law_draw d_law_draw
  f_law_pick : Addr
  d_law_pick : FuncData
  law_pick : Dn K mg "_law_pick" s_law_pick ["_law_pot_here", "_law_some"] f_law_pick d_law_pick
  f_law_met : Addr
  d_law_met : FuncData
  law_met : Dn K mg "_law_met" s_law_met ["_law_lines_here", "_law_sorts"] f_law_met d_law_met
  f_law_lines : Addr
  d_law_lines : FuncData
  law_lines : Dn K mg "_law_lines" s_law_lines ["_law_pot_here", "_law_size", "_law_most"] f_law_lines d_law_lines
  f_law_machine : Addr
  d_law_machine : FuncData
  law_machine : Dn K mg "_law_machine" s_law_machine ["_law_pot_here", "_law_signs", "_law_most"] f_law_machine d_law_machine
  f_law_led : Addr
  d_law_led : FuncData
  law_led : Dn K mg "_law_led" s_law_led ["_law_thing", "_law_place", "_law_letter", "_law_goal"] f_law_led d_law_led
  f_law_flipped : Addr
  d_law_flipped : FuncData
  law_flipped : Dn K mg "_law_flipped" s_law_flipped ["_law_thing", "_law_place"] f_law_flipped d_law_flipped
  f_law_heard : Addr
  d_law_heard : FuncData
  law_heard : Dn K mg "_law_heard" s_law_heard ["_law_call"] f_law_heard d_law_heard
  f_law_joined : Addr
  d_law_joined : FuncData
  law_joined : Dn K mg "_law_joined" s_law_joined ["_law_held", "_law_thing"] f_law_joined d_law_joined
  f_law_cut : Addr
  d_law_cut : FuncData
  law_cut : Dn K mg "_law_cut" s_law_cut ["_law_held", "_law_thing"] f_law_cut d_law_cut
  f_law_stands : Addr
  d_law_stands : FuncData
  law_stands : Dn K mg "_law_stands" s_law_stands ["_law_pot_here", "_law_held", "_law_one", "_law_other", "_law_many"] f_law_stands d_law_stands
  f_law_refusals_right : Addr
  d_law_refusals_right : FuncData
  law_refusals_right : Dn K mg "_law_refusals_right" s_law_refusals_right ["_law_pot_here", "_law_held", "_law_one", "_law_other"] f_law_refusals_right d_law_refusals_right
  f_law_change : Addr
  d_law_change : FuncData
  law_change : Dn K mg "_law_change" s_law_change ["_law_pot_here", "_law_held", "_law_one", "_law_other"] f_law_change d_law_change
  f_law_right : Addr
  d_law_right : FuncData
  law_right : Dn K mg "_law_right" s_law_right ["_law_pot_here"] f_law_right d_law_right
  f_law : Addr
  d_law : FuncData
  law : Dn K mg "law" s_law ["_law_script"] f_law d_law
  C_Machine : Addr
  cl_Machine : Cls K C_Machine
  g_Machine : mg "Machine" = some (.ref C_Machine)
  mk_Machine : PySem.W.makesIn K C_Machine = true
  kp_Machine : PySem.W.keepIn K (.ref C_Machine) = true
  ca_Machine : PySem.W.findIn K (.ref C_Machine) "__class__" = some (some (.builtin "object.__class__"))
  cg_Machine : PySem.W.specialIn K (.builtin "object.__class__") "__get__" = some (some (.builtin "getset_descriptor.__get__"))
  ct_Machine : PySem.W.takesIn K (.builtin "object.__class__") = some true
  ne_Machine : PySem.W.findIn K (.ref C_Machine) "__ne__" = some (some (.builtin "object.__ne__"))
  tt_Machine : PySem.W.typeIn K (.ref C_Machine) = some (.type "type")
  cr_Machine : ClX.CRead K C_Machine (.type "type")
  cv_Machine_MOST_PLACES : ∃ t, ClX.CVal K C_Machine (.type "type") "MOST_PLACES" (.int 40) (.int 40 t)
  n_Machine_own_letters : NoAttr K C_Machine "own_letters"
  n_Machine_own_rows : NoAttr K C_Machine "own_rows"
  n_Machine_own_kinds : NoAttr K C_Machine "own_kinds"
  k_Machine_MOST_PLACES : ∃ t, Con K C_Machine "MOST_PLACES" (.int 40) (.int 40 t)
  f_Machine_init : Addr
  d_Machine_init : FuncData
  Machine_init : Dm K C_Machine "__init__" "Machine.__init__" s_Machine_init ["self", "letters", "rows", "kinds"] f_Machine_init d_Machine_init
  f_Machine_rows : Addr
  d_Machine_rows : FuncData
  Machine_rows : Dm K C_Machine "rows" "Machine.rows" s_Machine_rows ["self"] f_Machine_rows d_Machine_rows
  f_Machine_kinds : Addr
  d_Machine_kinds : FuncData
  Machine_kinds : Dm K C_Machine "kinds" "Machine.kinds" s_Machine_kinds ["self"] f_Machine_kinds d_Machine_kinds
  f_Machine_takes : Addr
  d_Machine_takes : FuncData
  Machine_takes : Dm K C_Machine "takes" "Machine.takes" s_Machine_takes ["self", "text"] f_Machine_takes d_Machine_takes
  f_Machine_len : Addr
  d_Machine_len : FuncData
  Machine_len : Dm K C_Machine "__len__" "Machine.__len__" s_Machine_len ["self"] f_Machine_len d_Machine_len
  f_Machine_contains : Addr
  d_Machine_contains : FuncData
  Machine_contains : Dm K C_Machine "__contains__" "Machine.__contains__" s_Machine_contains ["self", "value"] f_Machine_contains d_Machine_contains
  f_Machine_eq : Addr
  d_Machine_eq : FuncData
  Machine_eq : Dm K C_Machine "__eq__" "Machine.__eq__" s_Machine_eq ["self", "other"] f_Machine_eq d_Machine_eq
  f_Machine_repr : Addr
  d_Machine_repr : FuncData
  Machine_repr : Dm K C_Machine "__repr__" "Machine.__repr__" s_Machine_repr ["self"] f_Machine_repr d_Machine_repr
  f_Machine_or : Addr
  d_Machine_or : FuncData
  Machine_or : Dm K C_Machine "__or__" "Machine.__or__" s_Machine_or ["self", "other"] f_Machine_or d_Machine_or
  f_Machine_sub : Addr
  d_Machine_sub : FuncData
  Machine_sub : Dm K C_Machine "__sub__" "Machine.__sub__" s_Machine_sub ["self", "other"] f_Machine_sub d_Machine_sub
  p_Machine_letters : Addr
  f_Machine_letters : Addr
  d_Machine_letters : FuncData
  Machine_letters : Dp1 K C_Machine "letters" "Machine.letters" s_Machine_letters p_Machine_letters f_Machine_letters d_Machine_letters
  C_Desk : Addr
  cl_Desk : Cls K C_Desk
  g_Desk : mg "Desk" = some (.ref C_Desk)
  mk_Desk : PySem.W.makesIn K C_Desk = true
  kp_Desk : PySem.W.keepIn K (.ref C_Desk) = true
  ca_Desk : PySem.W.findIn K (.ref C_Desk) "__class__" = some (some (.builtin "object.__class__"))
  cg_Desk : PySem.W.specialIn K (.builtin "object.__class__") "__get__" = some (some (.builtin "getset_descriptor.__get__"))
  ct_Desk : PySem.W.takesIn K (.builtin "object.__class__") = some true
  ne_Desk : PySem.W.findIn K (.ref C_Desk) "__ne__" = some (some (.builtin "object.__ne__"))
  tt_Desk : PySem.W.typeIn K (.ref C_Desk) = some (.type "type")
  cr_Desk : ClX.CRead K C_Desk (.type "type")
  n_Desk_one : NoAttr K C_Desk "one"
  n_Desk_other : NoAttr K C_Desk "other"
  n_Desk_own_past : NoAttr K C_Desk "own_past"
  f_Desk_init : Addr
  d_Desk_init : FuncData
  Desk_init : Dm K C_Desk "__init__" "Desk.__init__" s_Desk_init ["self", "one", "other"] f_Desk_init d_Desk_init
  f_Desk_put : Addr
  d_Desk_put : FuncData
  Desk_put : Dm K C_Desk "put" "Desk.put" s_Desk_put ["self", "one", "other"] f_Desk_put d_Desk_put
  f_Desk_named : Addr
  d_Desk_named : FuncData
  Desk_named : Dm K C_Desk "named" "Desk.named" s_Desk_named ["self", "which"] f_Desk_named d_Desk_named
  f_Desk_put_named : Addr
  d_Desk_put_named : FuncData
  Desk_put_named : Dm K C_Desk "put_named" "Desk.put_named" s_Desk_put_named ["self", "which", "machine"] f_Desk_put_named d_Desk_put_named
  f_Desk_turn : Addr
  d_Desk_turn : FuncData
  Desk_turn : Dm K C_Desk "turn" "Desk.turn" s_Desk_turn ["self", "which", "place"] f_Desk_turn d_Desk_turn
  f_Desk_lead : Addr
  d_Desk_lead : FuncData
  Desk_lead : Dm K C_Desk "lead" "Desk.lead" s_Desk_lead ["self", "which", "place", "letter", "goal"] f_Desk_lead d_Desk_lead
  f_Desk_swap : Addr
  d_Desk_swap : FuncData
  Desk_swap : Dm K C_Desk "swap" "Desk.swap" s_Desk_swap ["self"] f_Desk_swap d_Desk_swap
  f_Desk_undo : Addr
  d_Desk_undo : FuncData
  Desk_undo : Dm K C_Desk "undo" "Desk.undo" s_Desk_undo ["self"] f_Desk_undo d_Desk_undo
  f_Desk_iadd : Addr
  d_Desk_iadd : FuncData
  Desk_iadd : Dm K C_Desk "__iadd__" "Desk.__iadd__" s_Desk_iadd ["self", "machine"] f_Desk_iadd d_Desk_iadd
  f_Desk_isub : Addr
  d_Desk_isub : FuncData
  Desk_isub : Dm K C_Desk "__isub__" "Desk.__isub__" s_Desk_isub ["self", "machine"] f_Desk_isub d_Desk_isub
  f_Desk_getitem : Addr
  d_Desk_getitem : FuncData
  Desk_getitem : Dm K C_Desk "__getitem__" "Desk.__getitem__" s_Desk_getitem ["self", "text"] f_Desk_getitem d_Desk_getitem
  f_Desk_contains : Addr
  d_Desk_contains : FuncData
  Desk_contains : Dm K C_Desk "__contains__" "Desk.__contains__" s_Desk_contains ["self", "value"] f_Desk_contains d_Desk_contains
  f_Desk_len : Addr
  d_Desk_len : FuncData
  Desk_len : Dm K C_Desk "__len__" "Desk.__len__" s_Desk_len ["self"] f_Desk_len d_Desk_len
  C_PartsError : Addr
  g_PartsError : mg "PartsError" = some (.ref C_PartsError)
  C_StateError : Addr
  g_StateError : mg "StateError" = some (.ref C_StateError)
  et : ([C_InvalidCommand, C_InvalidLetter, C_InvalidMachine, C_InvalidPlace, C_InvalidText, C_NotComeTo, C_OtherLetters, C_NothingToUndo].zipIdx.all fun p => [C_InvalidCommand, C_InvalidLetter, C_InvalidMachine, C_InvalidPlace, C_InvalidText, C_NotComeTo, C_OtherLetters, C_NothingToUndo].zipIdx.all fun q => decide (PySem.W.exmOne K (.ref p.1) (.ref q.1) = some (decide (p.2 = q.2)))) = true
  kg : (([C_InvalidCommand, C_InvalidLetter, C_InvalidMachine, C_InvalidPlace, C_InvalidText].all fun c => decide (PySem.W.kitOne K (.ref c) (.ref C_PartsError) = some true)) && [C_OtherLetters, C_NothingToUndo].all fun c => decide (PySem.W.kitOne K (.ref c) (.ref C_StateError) = some true)) = true
  sfM : (PySem.W.selfFirst K C_Machine) = true
  sfD : (PySem.W.selfFirst K C_Desk) = true
  nrM : (noneIn (PySem.W.findIn K (.ref C_Machine) "__ror__") && noneIn (PySem.W.findIn K (.ref C_Machine) "__rsub__")) = true
  nst : (decide (PySem.W.mroIn K C_Machine (.type "str") = some false)) = true
  b_TypeError : mg "TypeError" = none
  b_abs : mg "abs" = none
  b_all : mg "all" = none
  b_any : mg "any" = none
  b_bool : mg "bool" = none
  b_divmod : mg "divmod" = none
  b_enumerate : mg "enumerate" = none
  b_int : mg "int" = none
  b_isinstance : mg "isinstance" = none
  b_len : mg "len" = none
  b_list : mg "list" = none
  b_max : mg "max" = none
  b_min : mg "min" = none
  b_property : mg "property" = none
  b_range : mg "range" = none
  b_repr : mg "repr" = none
  b_set : mg "set" = none
  b_sorted : mg "sorted" = none
  b_str : mg "str" = none
  b_super : mg "super" = none
  b_tuple : mg "tuple" = none
  b_zip : mg "zip" = none
  c_SMALL : ∃ t, mg "SMALL" = some (.str "abcdefghijklmnopqrstuvwxyz" t)
  c_MOST_LETTERS : ∃ t, mg "MOST_LETTERS" = some (.int 3 t)
  A_WHICH : Addr
  g_WHICH : mg "WHICH" = some (.ref A_WHICH)
  tu_WHICH : ∀ H : Hp, SqT K H A_WHICH [.str "one", .str "other"]
end Lw
namespace M14
def row (R : List (List Nat)) (p : Nat) : List Nat := R.getD p []
def addG (f : List Nat) (g : Nat) : List Nat := if g ∈ f then f else f ++ [g]
def metI (R : List (List Nat)) (s : Nat) : Nat → List Nat
  | 0 => [s]
  | n + 1 => match (metI R s n)[n]? with
    | some p => (row R p).foldl addG (metI R s n)
    | none => metI R s n
def met (R : List (List Nat)) (s : Nat) : List Nat := metI R s R.length
theorem row_get {R : List (List Nat)} {p : Nat} {r : List Nat} (h : R[p]? = some r) : row R p = r := by unfold row; rw [List.getD_eq_getElem?_getD, h]; rfl
theorem row_mem {R : List (List Nat)} {p : Nat} (h : p < R.length) : row R p ∈ R := by
  have e : row R p = R[p] := row_get (List.getElem?_eq_getElem h)
  rw [e]; exact List.getElem_mem h
theorem row_at {R : List (List Nat)} {p : Nat} (h : p < R.length) : R[p]? = some (row R p) := by
  rw [row_get (List.getElem?_eq_getElem h)]; exact List.getElem?_eq_getElem h
theorem addG_mem {f : List Nat} {g x : Nat} : x ∈ addG f g ↔ x ∈ f ∨ x = g := by
  unfold addG
  split
  · rename_i h
    exact ⟨.inl, fun z => z.elim id fun e => e ▸ h⟩
  · rw [List.mem_append, List.mem_singleton]
theorem addG_nodup {f : List Nat} {g : Nat} (h : f.Nodup) : (addG f g).Nodup := by
  unfold addG
  split
  · exact h
  · rename_i hn
    rw [List.nodup_append]
    refine ⟨h, (by simp), fun a ha b hb e => ?_⟩
    rw [List.mem_singleton] at hb
    exact hn (hb ▸ e ▸ ha)
theorem addG_pre (f : List Nat) (g : Nat) : f <+: addG f g := by
  unfold addG
  split
  · exact List.prefix_refl _
  · exact List.prefix_append _ _
theorem fold_mem {x : Nat} : ∀ {l f : List Nat}, x ∈ l.foldl addG f ↔ x ∈ f ∨ x ∈ l
  | [], f => by simp
  | a :: l, f => by
    rw [List.foldl_cons, fold_mem, addG_mem, List.mem_cons]
    constructor
    · rintro ((h | h) | h)
      · exact .inl h
      · exact .inr (.inl h)
      · exact .inr (.inr h)
    · rintro (h | h | h)
      · exact .inl (.inl h)
      · exact .inl (.inr h)
      · exact .inr h
theorem fold_nodup : ∀ {l f : List Nat}, f.Nodup → (l.foldl addG f).Nodup
  | [], _, h => h
  | a :: l, f, h => fold_nodup (l := l) (addG_nodup h)
theorem fold_pre : ∀ (l f : List Nat), f <+: l.foldl addG f
  | [], f => List.prefix_refl _
  | a :: l, f => (addG_pre f a).trans (fold_pre l _)
theorem metI_succ {R : List (List Nat)} {s n p : Nat} (h : (metI R s n)[n]? = some p) : metI R s (n + 1) = (row R p).foldl addG (metI R s n) := by
  show (match (metI R s n)[n]? with | some p => _ | none => _) = _
  rw [h]
theorem metI_stay {R : List (List Nat)} {s n : Nat} (h : (metI R s n).length ≤ n) : metI R s (n + 1) = metI R s n := by
  show (match (metI R s n)[n]? with | some p => _ | none => _) = _
  rw [List.getElem?_eq_none h]
theorem metI_pre1 (R : List (List Nat)) (s n : Nat) : metI R s n <+: metI R s (n + 1) := by
  cases h : (metI R s n)[n]? with
  | none => rw [metI_stay (List.getElem?_eq_none_iff.mp h)]; exact List.prefix_refl _
  | some p => rw [metI_succ h]; exact fold_pre _ _
theorem metI_pre (R : List (List Nat)) (s n : Nat) : ∀ k, metI R s n <+: metI R s (n + k)
  | 0 => List.prefix_refl _
  | k + 1 => (metI_pre R s n k).trans (metI_pre1 R s (n + k))
theorem metI_keep {R : List (List Nat)} {s n : Nat} (h : (metI R s n).length ≤ n) : ∀ k, metI R s (n + k) = metI R s n
  | 0 => rfl
  | k + 1 => by
    have e := metI_keep h k
    rw [← Nat.add_assoc, metI_stay (by rw [e]; omega), e]
theorem metI_uniq {R : List (List Nat)} {s a b : Nat} (ha : (metI R s a).length ≤ a) (hb : (metI R s b).length ≤ b) : metI R s a = metI R s b := by
  rcases Nat.le_total a b with h | h
  · obtain ⟨k, rfl⟩ := Nat.exists_eq_add_of_le h
    exact (metI_keep ha k).symm
  · obtain ⟨k, rfl⟩ := Nat.exists_eq_add_of_le h
    exact metI_keep hb k
theorem metI_nodup (R : List (List Nat)) (s : Nat) : ∀ n, (metI R s n).Nodup
  | 0 => by show [s].Nodup; simp
  | n + 1 => by
    cases h : (metI R s n)[n]? with
    | none => rw [metI_stay (List.getElem?_eq_none_iff.mp h)]; exact metI_nodup R s n
    | some p => rw [metI_succ h]; exact fold_nodup (metI_nodup R s n)
theorem metI_in {R : List (List Nat)} {s : Nat} {S : Nat → Prop} (h0 : S s) (hc : ∀ p, S p → ∀ g ∈ row R p, S g) : ∀ n x, x ∈ metI R s n → S x
  | 0, x, hx => by rw [List.mem_singleton.mp hx]; exact h0
  | n + 1, x, hx => by
    cases h : (metI R s n)[n]? with
    | none => rw [metI_stay (List.getElem?_eq_none_iff.mp h)] at hx; exact metI_in h0 hc n x hx
    | some p =>
      rw [metI_succ h] at hx
      rcases fold_mem.mp hx with hx | hx
      · exact metI_in h0 hc n x hx
      · exact hc p (metI_in h0 hc n p (List.mem_of_getElem? h)) x hx
theorem nodup_len : ∀ (n : Nat) (l : List Nat), l.Nodup → (∀ x ∈ l, x < n) → l.length ≤ n
  | 0, l, _, h => by
    cases l with
    | nil => exact Nat.le_refl _
    | cons a l => exact absurd (h a List.mem_cons_self) (Nat.not_lt_zero _)
  | n + 1, l, hd, h => by
    by_cases hm : n ∈ l
    · have h1 := nodup_len n (l.erase n) (hd.erase n) fun x hx => by
        have h2 := (List.Nodup.mem_erase_iff hd).mp hx
        have := h x h2.2
        have := h2.1
        omega
      rw [List.length_erase_of_mem hm] at h1
      omega
    · have h1 := nodup_len n l hd fun x hx => by
        have := h x hx
        have : x ≠ n := fun e => hm (e ▸ hx)
        omega
      omega
/-- rows in range -/
def Val (R : List (List Nat)) : Prop := ∀ p, p < R.length → ∀ g ∈ row R p, g < R.length
theorem metI_lt {R : List (List Nat)} {s : Nat} (v : Val R) (hs : s < R.length) (n x : Nat) (h : x ∈ metI R s n) : x < R.length := metI_in (S := fun x => x < R.length) hs v n x h
theorem metI_len {R : List (List Nat)} {s : Nat} (v : Val R) (hs : s < R.length) (n : Nat) : (metI R s n).length ≤ R.length := nodup_len _ _ (metI_nodup R s n) (metI_lt v hs n)
theorem met_of {R : List (List Nat)} {s n : Nat} (v : Val R) (hs : s < R.length) (h : (metI R s n).length ≤ n) : metI R s n = met R s := metI_uniq h (metI_len v hs _)
theorem met_nodup (R : List (List Nat)) (s : Nat) : (met R s).Nodup := metI_nodup _ _ _
theorem met_lt {R : List (List Nat)} {s x : Nat} (v : Val R) (hs : s < R.length) (h : x ∈ met R s) : x < R.length := metI_lt v hs _ x h
theorem met_len {R : List (List Nat)} {s : Nat} (v : Val R) (hs : s < R.length) : (met R s).length ≤ R.length := metI_len v hs _
theorem metI_head (R : List (List Nat)) (s n : Nat) : (metI R s n)[0]? = some s := by
  have h := metI_pre R s 0 n
  rw [Nat.zero_add] at h
  obtain ⟨t, e⟩ := h
  rw [← e]
  rfl
theorem met_head (R : List (List Nat)) (s : Nat) : (met R s)[0]? = some s := metI_head _ _ _
theorem met_self (R : List (List Nat)) (s : Nat) : s ∈ met R s := List.mem_of_getElem? (met_head R s)
theorem met_closed {R : List (List Nat)} {s p g : Nat} (v : Val R) (hs : s < R.length) (hp : p ∈ met R s) (hg : g ∈ row R p) : g ∈ met R s := by
  obtain ⟨i, hi⟩ := List.mem_iff_getElem?.mp hp
  have hl := (List.getElem?_eq_some_iff.mp hi).1
  have hl2 := met_len v hs
  have hlt : i < (metI R s i).length := by
    rcases Nat.lt_or_ge i (metI R s i).length with h | h
    · exact h
    · rw [← met_of v hs h] at hl
      exact absurd hl (Nat.not_lt.mpr h)
  obtain ⟨k, hk⟩ := Nat.exists_eq_add_of_le (show i + 1 ≤ R.length by omega)
  have hpre := metI_pre R s i (1 + k)
  have e1 : (metI R s i)[i]? = some p := by
    rw [← hi]
    have e : i + (1 + k) = R.length := by omega
    rw [e] at hpre
    obtain ⟨t, e2⟩ := hpre
    show _ = (metI R s R.length)[i]?
    rw [← e2, List.getElem?_append_left hlt]
  have h2 : g ∈ metI R s (i + 1) := by
    rw [metI_succ e1]
    exact fold_mem.mpr (.inr hg)
  have h3 := metI_pre R s (i + 1) k
  rw [← hk] at h3
  exact h3.subset h2
def ren (od : List Nat) (R : List (List Nat)) : List (List Nat) := od.map fun p => (row R p).map fun g => od.idxOf g
theorem idx_get {od : List Nat} {x : Nat} (h : x ∈ od) : od[od.idxOf x]? = some x := by
  have h1 := List.idxOf_lt_length_of_mem h
  rw [List.getElem?_eq_getElem h1, List.getElem_idxOf h1]
theorem idx_inj {od : List Nat} {x y : Nat} (hx : x ∈ od) (hy : y ∈ od) (e : od.idxOf x = od.idxOf y) : x = y := by
  have h1 := idx_get hx
  rw [e, idx_get hy] at h1
  exact (Option.some.inj h1).symm
theorem idx_at {od : List Nat} (hd : od.Nodup) {i x : Nat} (h : od[i]? = some x) : od.idxOf x = i := by
  obtain ⟨hi, e⟩ := List.getElem?_eq_some_iff.mp h
  have hm : x ∈ od := List.mem_of_getElem? h
  have h1 := List.idxOf_lt_length_of_mem hm
  have h2 : od[od.idxOf x] = x := List.getElem_idxOf h1
  rcases Nat.lt_trichotomy (od.idxOf x) i with z | z | z
  · exact absurd (h2.trans e.symm) (List.pairwise_iff_getElem.mp hd _ _ h1 hi z)
  · exact z
  · exact absurd (e.trans h2.symm) (List.pairwise_iff_getElem.mp hd _ _ hi h1 z)
theorem ren_row {od : List Nat} {R : List (List Nat)} {p : Nat} (h : p ∈ od) : row (ren od R) (od.idxOf p) = (row R p).map fun g => od.idxOf g := by
  refine row_get ?_
  unfold ren
  rw [List.getElem?_map, idx_get h]
  rfl
theorem addG_map {od : List Nat} {f : List Nat} {g : Nat} (hf : ∀ x ∈ f, x ∈ od) (hg : g ∈ od) : addG (f.map fun g => od.idxOf g) (od.idxOf g) = (addG f g).map fun g => od.idxOf g := by
  unfold addG
  by_cases h : g ∈ f
  · rw [if_pos h, if_pos (List.mem_map.mpr ⟨g, h, rfl⟩)]
  · rw [if_neg h, if_neg fun z => ?_, List.map_append]
    · rfl
    · obtain ⟨x, hx, e⟩ := List.mem_map.mp z
      exact h (idx_inj (hf x hx) hg e ▸ hx)
theorem fold_map {od : List Nat} : ∀ {l f : List Nat}, (∀ x ∈ f, x ∈ od) → (∀ x ∈ l, x ∈ od) → (l.map fun g => od.idxOf g).foldl addG (f.map fun g => od.idxOf g) = (l.foldl addG f).map fun g => od.idxOf g
  | [], f, _, _ => rfl
  | a :: l, f, hf, hl => by
    rw [List.map_cons, List.foldl_cons, List.foldl_cons, addG_map hf (hl a List.mem_cons_self)]
    exact fold_map (fun x hx => (addG_mem.mp hx).elim (hf x) fun e => e ▸ hl a List.mem_cons_self) fun x hx => hl x (List.mem_cons_of_mem _ hx)
theorem ren_metI {od : List Nat} {R : List (List Nat)} {s : Nat} (hs : s ∈ od) (hc : ∀ p ∈ od, ∀ g ∈ row R p, g ∈ od) : ∀ n, metI (ren od R) (od.idxOf s) n = (metI R s n).map fun g => od.idxOf g
  | 0 => rfl
  | n + 1 => by
    have ih := ren_metI hs hc n
    have hin := metI_in (S := fun x => x ∈ od) hs hc n
    cases h : (metI R s n)[n]? with
    | none =>
      have hl := List.getElem?_eq_none_iff.mp h
      rw [metI_stay hl, metI_stay (by rw [ih, List.length_map]; exact hl), ih]
    | some p =>
      have hp := hin p (List.mem_of_getElem? h)
      rw [metI_succ h, metI_succ (p := od.idxOf p) (by rw [ih, List.getElem?_map, h]; rfl), ih, ren_row hp, fold_map hin (hc p hp)]
theorem ren_len (od : List Nat) (R : List (List Nat)) : (ren od R).length = od.length := by unfold ren; rw [List.length_map]
theorem ren_val {od : List Nat} {R : List (List Nat)} (hd : od.Nodup) (hc : ∀ p ∈ od, ∀ g ∈ row R p, g ∈ od) : Val (ren od R) := by
  intro i hi g hg
  rw [ren_len] at hi ⊢
  have e : od.idxOf od[i] = i := idx_at hd (List.getElem?_eq_getElem hi)
  rw [← e, ren_row (List.getElem_mem hi)] at hg
  obtain ⟨x, hx, rfl⟩ := List.mem_map.mp hg
  exact List.idxOf_lt_length_of_mem (hc _ (List.getElem_mem hi) x hx)
theorem ren_met {od : List Nat} {R : List (List Nat)} {s : Nat} (hd : od.Nodup) (hs : s ∈ od) (hc : ∀ p ∈ od, ∀ g ∈ row R p, g ∈ od) (v : Val R) (hs2 : s < R.length) : met (ren od R) (od.idxOf s) = (met R s).map fun g => od.idxOf g := by
  have hv := ren_val hd hc
  have hi : od.idxOf s < (ren od R).length := by rw [ren_len]; exact List.idxOf_lt_length_of_mem hs
  have h1 : (metI (ren od R) (od.idxOf s) R.length).length ≤ R.length := by
    rw [ren_metI hs hc, List.length_map]; exact metI_len v hs2 _
  rw [← met_of hv hi h1, ren_metI hs hc]
  rfl
/-- a sheet of a machine with n letters -/
structure Sht (n : Nat) (R : List (List Nat)) (k : List Bool) : Prop where
  ne : 0 < R.length
  few : R.length ≤ 40
  len : ∀ r ∈ R, r.length = n
  val : Val R
  kin : k.length = R.length
/-- .. of which all places are come to -/
structure Good (n : Nat) (R : List (List Nat)) (k : List Bool) : Prop extends Sht n R k where
  all : ∀ p, p < R.length → p ∈ met R 0
def kAt (k : List Bool) (p : Nat) : Bool := k.getD p false
/-- numbered in the sequence od -/
theorem good_ren {n : Nat} {R : List (List Nat)} {s : Nat} {od : List Nat} {k : List Bool} (v : Val R) (few : R.length ≤ 40) (len : ∀ r ∈ R, r.length = n) (hs : s < R.length) (hp : od.Perm (met R s)) (h0 : od[0]? = some s) (hk : k.length = od.length) : Good n (ren od R) k := by
  have hd : od.Nodup := hp.nodup_iff.mpr (met_nodup R s)
  have hc : ∀ p ∈ od, ∀ g ∈ row R p, g ∈ od := fun p h g hg => hp.mem_iff.mpr (met_closed v hs (hp.mem_iff.mp h) hg)
  have hs1 : s ∈ od := List.mem_of_getElem? h0
  refine ⟨⟨?_, ?_, ?_, ren_val hd hc, by rw [ren_len]; exact hk⟩, fun p h => ?_⟩
  · rw [ren_len]; exact List.length_pos_iff.mpr fun e => by rw [e] at h0; cases h0
  · rw [ren_len, hp.length_eq]; exact Nat.le_trans (met_len v hs) few
  · intro r hr
    obtain ⟨p, h1, rfl⟩ := List.mem_map.mp hr
    rw [List.length_map]
    exact len _ (row_mem (met_lt v hs (hp.mem_iff.mp h1)))
  · have e := ren_met hd hs1 hc v hs
    rw [idx_at hd h0] at e
    rw [ren_len] at h
    rw [e, List.mem_map]
    exact ⟨od[p], hp.mem_iff.mp (List.getElem_mem h), idx_at hd (List.getElem?_eq_getElem h)⟩
/-- the same places from one of them on, numbered as come to -/
def fromR (R : List (List Nat)) (s : Nat) : List (List Nat) := ren (met R s) R
def fromK (R : List (List Nat)) (k : List Bool) (s : Nat) : List Bool := (met R s).map (kAt k)
theorem good_from {n : Nat} {R : List (List Nat)} {k : List Bool} {s : Nat} (h : Sht n R k) (hs : s < R.length) : Good n (fromR R s) (fromK R k s) :=
  good_ren h.val h.few h.len hs (List.Perm.refl _) (met_head R s) (by unfold fromK; rw [List.length_map])
def addF (t : List Nat) (L : List (Nat × List Nat)) (cg : Nat × Nat) : List (Nat × List Nat) := if cg.2 ∈ L.map (·.1) then L else L ++ [(cg.2, t ++ [cg.1])]
def fstI (sg : List Nat) (R : List (List Nat)) : Nat → List (Nat × List Nat)
  | 0 => [(0, [])]
  | n + 1 => match (fstI sg R n)[n]? with
    | some q => (sg.zip (row R q.1)).foldl (addF q.2) (fstI sg R n)
    | none => fstI sg R n
def fst (sg : List Nat) (R : List (List Nat)) : List (Nat × List Nat) := fstI sg R R.length
def txt (sg : List Nat) (R : List (List Nat)) (p : Nat) : List Nat := ((fst sg R).lookup p).getD []
def led (sg : List Nat) (R : List (List Nat)) (p : Nat) (t : List Nat) : Nat := t.foldl (fun p c => (row R p).getD (sg.idxOf c) 0) p
theorem led_step {sg : List Nat} {R : List (List Nat)} {k : List Bool} (h : Sht sg.length R k) {p c : Nat} (hp : p < R.length) (hc : c ∈ sg) : ∃ g, (row R p)[sg.idxOf c]? = some g ∧ g < R.length ∧ (row R p).getD (sg.idxOf c) 0 = g := by
  have hl := h.len _ (row_mem hp)
  have hi : sg.idxOf c < (row R p).length := by rw [hl]; exact List.idxOf_lt_length_of_mem hc
  refine ⟨(row R p)[sg.idxOf c], List.getElem?_eq_getElem hi, h.val p hp _ (List.getElem_mem hi), ?_⟩
  rw [List.getD_eq_getElem?_getD, List.getElem?_eq_getElem hi]
  rfl
theorem led_lt {sg : List Nat} {R : List (List Nat)} {k : List Bool} (h : Sht sg.length R k) : ∀ {t : List Nat} {p : Nat}, p < R.length → (∀ c ∈ t, c ∈ sg) → led sg R p t < R.length
  | [], p, hp, _ => hp
  | c :: t, p, hp, hc => by
    obtain ⟨g, _, h2, h3⟩ := led_step h hp (hc c List.mem_cons_self)
    show led sg R ((row R p).getD (sg.idxOf c) 0) t < _
    rw [h3]
    exact led_lt h h2 fun x hx => hc x (List.mem_cons_of_mem _ hx)
theorem led_snoc (sg : List Nat) (R : List (List Nat)) (p : Nat) (t : List Nat) (c : Nat) : led sg R p (t ++ [c]) = (row R (led sg R p t)).getD (sg.idxOf c) 0 := by
  unfold led; rw [List.foldl_append]; rfl
end M14
namespace M16
open M14
section
variable {α : Type} [DecidableEq α]
def addN (l : List α) (v : α) : List α := if v ∈ l then l else l ++ [v]
def nub (l : List α) : List α := l.foldl addN []
theorem addN_mem {l : List α} {v x : α} : x ∈ addN l v ↔ x ∈ l ∨ x = v := by
  unfold addN
  split
  · rename_i h
    exact ⟨.inl, fun z => z.elim id fun e => e ▸ h⟩
  · rw [List.mem_append, List.mem_singleton]
theorem foldN_mem {x : α} : ∀ {l f : List α}, x ∈ l.foldl addN f ↔ x ∈ f ∨ x ∈ l
  | [], f => by simp
  | a :: l, f => by
    rw [List.foldl_cons, foldN_mem, addN_mem, List.mem_cons, or_assoc]
theorem nub_mem {l : List α} {x : α} : x ∈ nub l ↔ x ∈ l := by unfold nub; rw [foldN_mem]; simp
theorem idxA {l : List α} {x : α} (h : x ∈ l) : l[l.idxOf x]? = some x := by
  have h1 := List.idxOf_lt_length_of_mem h
  rw [List.getElem?_eq_getElem h1, List.getElem_idxOf h1]
theorem idxA_at {l : List α} (hd : l.Nodup) {i : Nat} {x : α} (h : l[i]? = some x) : l.idxOf x = i := by
  obtain ⟨hi, e⟩ := List.getElem?_eq_some_iff.mp h
  have hm : x ∈ l := List.mem_of_getElem? h
  have h1 := List.idxOf_lt_length_of_mem hm
  have h2 : l[l.idxOf x] = x := List.getElem_idxOf h1
  rcases Nat.lt_trichotomy (l.idxOf x) i with z | z | z
  · exact absurd (h2.trans e.symm) (List.pairwise_iff_getElem.mp hd _ _ h1 hi z)
  · exact z
  · exact absurd (e.trans h2.symm) (List.pairwise_iff_getElem.mp hd _ _ hi h1 z)
end
end M16
namespace M16
open M14
def wid (C : List Nat) : Nat := (nub C).length
section
variable {sg : List Nat} {R : List (List Nat)} {k : List Bool}
/-- numbers as they first come -/
structure Num (C : List Nat) : Prop where
  nb : nub C = List.range (wid C)
theorem Num.lt {C : List Nat} (h : Num C) {x : Nat} (hx : x ∈ C) : x < wid C := by
  have := nub_mem.mpr hx
  rw [h.nb] at this
  exact List.mem_range.mp this
theorem Num.mem {C : List Nat} (h : Num C) {x : Nat} (hx : x < wid C) : x ∈ C := nub_mem.mp (by rw [h.nb]; exact List.mem_range.mpr hx)
/-- the head of a class -/
def hd (C : List Nat) (n : Nat) : Nat := C.idxOf n
end
end M16
namespace M16
open M14
/-- the pair (a, b) as a number, b below N -/
def enc (N a b : Nat) : Nat := a * N + b
theorem enc_div {N a b : Nat} (h : b < N) : enc N a b / N = a := by
  unfold enc
  rw [Nat.mul_comm, Nat.mul_add_div (by omega), Nat.div_eq_of_lt h, Nat.add_zero]
theorem enc_mod {N a b : Nat} (h : b < N) : enc N a b % N = b := by
  unfold enc
  rw [Nat.mul_comm, Nat.mul_add_mod, Nat.mod_eq_of_lt h]
theorem enc_lt {N M a b : Nat} (ha : a < M) (h : b < N) : enc N a b < M * N := by
  unfold enc
  have h1 : (a + 1) * N ≤ M * N := Nat.mul_le_mul_right _ ha
  rw [Nat.succ_mul] at h1
  omega
theorem enc_dec {N x : Nat} : enc N (x / N) (x % N) = x := by
  unfold enc
  rw [Nat.mul_comm]; exact Nat.div_add_mod x N
/-- the rows of all pairs -/
def prodR (R S : List (List Nat)) : List (List Nat) := (List.range (R.length * S.length)).map fun x => ((row R (x / S.length)).zip (row S (x % S.length))).map fun y => enc S.length y.1 y.2
def prodK (f : Bool → Bool → Bool) (R S : List (List Nat)) (k l : List Bool) : List Bool := (List.range (R.length * S.length)).map fun x => f (kAt k (x / S.length)) (kAt l (x % S.length))
theorem prodR_len (R S : List (List Nat)) : (prodR R S).length = R.length * S.length := by unfold prodR; rw [List.length_map, List.length_range]
theorem div_lt {M N x : Nat} (h : x < M * N) : x / N < M ∧ x % N < N := by
  have hN : 0 < N := by
    rcases Nat.eq_zero_or_pos N with e | e
    · rw [e, Nat.mul_zero] at h; omega
    · exact e
  exact ⟨(Nat.div_lt_iff_lt_mul hN).mpr h, Nat.mod_lt _ hN⟩
theorem prodR_row {R S : List (List Nat)} {x : Nat} (hx : x < R.length * S.length) : row (prodR R S) x = ((row R (x / S.length)).zip (row S (x % S.length))).map fun y => enc S.length y.1 y.2 := by
  refine row_get ?_
  unfold prodR
  rw [List.getElem?_map, List.getElem?_range hx]; rfl
theorem prodK_at {f : Bool → Bool → Bool} {R S : List (List Nat)} {k l : List Bool} {x : Nat} (hx : x < R.length * S.length) : kAt (prodK f R S k l) x = f (kAt k (x / S.length)) (kAt l (x % S.length)) := by
  unfold prodK
  show List.getD _ _ _ = _
  rw [List.getD_eq_getElem?_getD, List.getElem?_map, List.getElem?_range hx]; rfl
section
variable {sg : List Nat} {R S : List (List Nat)} {k l : List Bool} {f : Bool → Bool → Bool}
theorem prod_sht (h : Sht sg.length R k) (h' : Sht sg.length S l) (hf : R.length * S.length ≤ 40) : Sht sg.length (prodR R S) (prodK f R S k l) := by
  refine ⟨?_, by rw [prodR_len]; exact hf, fun r hr => ?_, fun p hp g hg => ?_, by rw [prodR_len]; unfold prodK; rw [List.length_map, List.length_range]⟩
  · rw [prodR_len]; exact Nat.mul_pos h.ne h'.ne
  · obtain ⟨x, hx, rfl⟩ := List.mem_map.mp hr
    obtain ⟨h1, h2⟩ := div_lt (List.mem_range.mp hx)
    rw [List.length_map, List.length_zip, h.len _ (row_mem h1), h'.len _ (row_mem h2)]; simp
  · rw [prodR_len] at hp ⊢
    rw [prodR_row hp] at hg
    obtain ⟨y, hy, rfl⟩ := List.mem_map.mp hg
    obtain ⟨h1, h2⟩ := div_lt hp
    obtain ⟨m1, m2⟩ := List.of_mem_zip (a := y.1) (b := y.2) hy
    exact enc_lt (h.val _ h1 _ m1) (h'.val _ h2 _ m2)
/-- the paired machine -/
def pairR (R S : List (List Nat)) : List (List Nat) := fromR (prodR R S) 0
def pairK (f : Bool → Bool → Bool) (R S : List (List Nat)) (k l : List Bool) : List Bool := fromK (prodR R S) (prodK f R S k l) 0
theorem pair_good (h : Sht sg.length R k) (h' : Sht sg.length S l) (hf : R.length * S.length ≤ 40) : Good sg.length (pairR R S) (pairK f R S k l) :=
  good_from (prod_sht h h' hf) (prod_sht (f := f) h h' hf).ne
theorem pair_len (h : Sht sg.length R k) (h' : Sht sg.length S l) (hf : R.length * S.length ≤ 40) : (pairR R S).length ≤ R.length * S.length := by
  have hs := prod_sht (f := fun a _ => a) h h' hf
  unfold pairR fromR
  rw [ren_len]
  have := met_len hs.val hs.ne
  rw [prodR_len] at this
  exact this
def prs (R S : List (List Nat)) : List Nat := met (prodR R S) 0
theorem pair_rows_eq (R S : List (List Nat)) : pairR R S = (prs R S).map fun x => (row (prodR R S) x).map fun g => (prs R S).idxOf g := rfl
end
end M16
namespace M74
open M14
def tk (k : List Bool) (S : List Nat) : List Bool := (List.range k.length).map fun i => kAt k i != decide (i ∈ S)
theorem tk_len (k : List Bool) (S : List Nat) : (tk k S).length = k.length := by unfold tk; rw [List.length_map, List.length_range]
theorem tk_good {n : Nat} {R : List (List Nat)} {k : List Bool} (h : Good n R k) (S : List Nat) : Good n R (tk k S) := ⟨⟨h.ne, h.few, h.len, h.val, by rw [tk_len]; exact h.kin⟩, h.all⟩
def rd (R : List (List Nat)) (s a g : Nat) : List (List Nat) := R.set s ((row R s).set a g)
theorem rd_len (R : List (List Nat)) (s a g : Nat) : (rd R s a g).length = R.length := by unfold rd; rw [List.length_set]
theorem rd_row {R : List (List Nat)} {s a g : Nat} (h : s < R.length) : row (rd R s a g) s = (row R s).set a g := row_get (by unfold rd; rw [List.getElem?_set_self h])
theorem rd_rest {R : List (List Nat)} {s a g p : Nat} (hp : p ≠ s) : row (rd R s a g) p = row R p := by
  unfold rd row
  simp only [List.getD_eq_getElem?_getD]
  rw [List.getElem?_set_ne hp.symm]
theorem rd_sht {n : Nat} {R : List (List Nat)} {k : List Bool} {s a g : Nat} (h : Sht n R k) (hs : s < R.length) (hg : g < R.length) : Sht n (rd R s a g) k := by
  refine ⟨by rw [rd_len]; exact h.ne, by rw [rd_len]; exact h.few, fun r hr => ?_, fun p hp x hx => ?_, by rw [rd_len]; exact h.kin⟩
  · unfold rd at hr
    rcases List.mem_or_eq_of_mem_set hr with hr | rfl
    · exact h.len r hr
    · rw [List.length_set]; exact h.len _ (row_mem hs)
  · rw [rd_len] at hp ⊢
    by_cases e : p = s
    · subst e
      rw [rd_row hs] at hx
      rcases List.mem_or_eq_of_mem_set hx with hx | rfl
      · exact h.val p hp x hx
      · exact hg
    · rw [rd_rest e] at hx
      exact h.val p hp x hx
theorem all_of_len {n : Nat} {R : List (List Nat)} {k : List Bool} (h : Sht n R k) (hl : (met R 0).length = R.length) : ∀ p, p < R.length → p ∈ met R 0 := by
  intro p hp
  refine Decidable.byContradiction fun hn => ?_
  have h2 : (p :: met R 0).Nodup := List.nodup_cons.mpr ⟨hn, met_nodup R 0⟩
  have := nodup_len R.length (p :: met R 0) h2 fun x hx => by
    rcases List.mem_cons.mp hx with rfl | hx
    · exact hp
    · exact met_lt h.val h.ne hx
  rw [List.length_cons] at this
  omega
theorem len_of_all {n : Nat} {R : List (List Nat)} {k : List Bool} (h : Sht n R k) (ha : ∀ p, p < R.length → p ∈ met R 0) : (met R 0).length = R.length := by
  refine Nat.le_antisymm (met_len h.val h.ne) ?_
  have key : ∀ (l m : List Nat), l.Nodup → (∀ x ∈ l, x ∈ m) → l.length ≤ m.length := by
    intro l
    induction l with
    | nil => intro m _ _; exact Nat.zero_le _
    | cons a l ih =>
      intro m hd hs
      obtain ⟨h1, h2⟩ := List.nodup_cons.mp hd
      have hm := hs a List.mem_cons_self
      have h3 := ih (m.erase a) h2 fun x hx => (List.mem_erase_of_ne (fun (e : x = a) => h1 (e ▸ hx))).mpr (hs x (List.mem_cons_of_mem _ hx))
      rw [List.length_erase_of_mem hm] at h3
      have : 0 < m.length := List.length_pos_of_mem hm
      rw [List.length_cons]; omega
  have := key (List.range R.length) (met R 0) List.nodup_range fun x hx => ha x (List.mem_range.mp hx)
  rw [List.length_range] at this
  exact this
theorem good_iff {n : Nat} {R : List (List Nat)} {k : List Bool} (h : Sht n R k) : Good n R k ↔ (met R 0).length = R.length := ⟨fun g => len_of_all h g.all, fun e => ⟨h, all_of_len h e⟩⟩
end M74
namespace L3
open PySem PySem.Spec PyProof.Rows L2 LamX NdefX
/-- the captured cells, in the base -/
structure BCells (cl : List (Str × Addr)) (fr : List Str) (ws : List (Option V)) (h : Heap) : Prop where
  len : ws.length = fr.length
  all : ∀ y c, cl.lookup y = some c → ∃ v, h.IsCell c v
  inj : ∀ x y c, cl.lookup x = some c → cl.lookup y = some c → x = y
  has : ∀ (i : Nat) (y : Str), fr[i]? = some y → ∃ c, cl.lookup y = some c ∧ ∀ v, ws[i]? = some (some v) → ∃ u, L2.RelV v u ∧ h.IsCell c (some u)
theorem BCells.at {X : Cx} {pins : List (Addr × Obj)} {σ : L2.St} {H : Hp} {s : Shared} {cl : List (Str × Addr)} {fr : List Str} {ws : List (Option V)} (B : BCells cl fr ws X.base) (I : L2.Inv X pins σ H s) : CellsAt cl fr ws s.heap H := by
  have kp : ∀ c v, X.base.IsCell c v → s.heap.IsCell c v := fun c v ⟨o, ho, hd⟩ => ⟨o, (I.bs c o ho).1, hd⟩
  refine ⟨B.len, fun y c e => ?_, B.inj, fun i y e => ?_⟩
  · obtain ⟨v, z⟩ := B.all y c e
    refine ⟨?_, v, kp c v z⟩
    obtain ⟨o, ho, _⟩ := z
    exact (I.bs c o ho).2
  · obtain ⟨c, hc, hv⟩ := B.has i y e
    refine ⟨c, hc, fun v ev => ?_⟩
    obtain ⟨u, r, z⟩ := hv v ev
    exact ⟨u, r, kp c _ z⟩
end L3
namespace L3
open PySem PySem.Spec PyProof.Rows L2
mutual
def keyN : PyData → NestedKey
  | .none => .none
  | .bool b => .num (if b = true then 1 else 0)
  | .int i => .num i
  | .str x => .text x
  | .tuple ds => .tup (keyNs ds)
  | .list _ => .none
  | .dict _ => .none
def keyNs : List PyData → List NestedKey
  | [] => []
  | d :: ds => keyN d :: keyNs ds
end
mutual
def keyable : PyData → Bool
  | .none => true
  | .bool _ => true
  | .int _ => true
  | .str _ => true
  | .tuple ds => keyables ds
  | .list _ => false
  | .dict _ => false
def keyables : List PyData → Bool
  | [] => true
  | d :: ds => keyable d && keyables ds
end
/-- an entry: the key's data, its address, the value -/
abbrev EntN := PyData × Addr × V
def KN : List EntN → List (NestedKey × Addr × Value) → Prop := Paired fun p q => q.1 = keyN p.1 ∧ q.2.1 = p.2.1 ∧ RelV p.2.2 q.2.2
def valN (es : List EntN) (k : NestedKey) : Option V := (es.find? fun x => decide (keyN x.1 = k)).map (·.2.2)
theorem KN.val {es : List EntN} {xs : List (NestedKey × Addr × Value)} (r : KN es xs) (k : NestedKey) : RelO (valN es k) ((atKey xs k).map (·.2)) := by
  unfold KN at r
  induction r with
  | nil => exact True.intro
  | @cons p q ps qs h t ih =>
    obtain ⟨h1, _, h2⟩ := h
    by_cases e : keyN p.1 = k
    · have e' : q.1 = k := h1.trans e
      have b : atKey (q :: qs) k = some q.2 := by simp [atKey, List.find?_cons, e']
      have a : valN (p :: ps) k = some p.2.2 := by simp [valN, List.find?_cons, e]
      rw [a, b]; exact h2
    · have e' : ¬ q.1 = k := fun z => e (h1.symm.trans z)
      have b : atKey (q :: qs) k = atKey qs k := by simp [atKey, List.find?_cons, e']
      have a : valN (p :: ps) k = valN ps k := by simp [valN, List.find?_cons, e]
      rw [a, b]; exact ih
theorem KN.snoc {es : List EntN} {xs : List (NestedKey × Addr × Value)} (r : KN es xs) {p : EntN} {q : NestedKey × Addr × Value} (h : q.1 = keyN p.1 ∧ q.2.1 = p.2.1 ∧ RelV p.2.2 q.2.2) : KN (es ++ [p]) (xs ++ [q]) := Paired.snoc r h
/-- a dict with bools as keys -/
def TB (P : Program) (w : World) (a : Addr) (kvs : List (Bool × V)) : HO := .ext fun h => (a == sysModules) = false ∧ kvs.length ≤ sizeLine ∧ ∃ vs, KV kvs vs ∧ h.DictOf (PpSet.boolK P w) a vs
/-- the keys stand -/
def Keys (K : PySem.W.Frag) (H : Hp) (es : List EntN) : Prop := ∀ x ∈ es, Dp K H (.ref x.2.1) x.1 ∧ keyable x.1 = true ∧ (keyN x.1).depth ≤ 8
theorem Keys.same {K : PySem.W.Frag} {H H' : Hp} {es : List EntN} (h : Keys K H es) (s : Same H H') : Keys K H' es := fun x hx => ⟨Dp.same s (h x hx).1, (h x hx).2⟩
end L3
namespace L3
open PySem PySem.Spec PyProof.Rows L2
end L3
namespace Lw
open PySem PySem.Spec PyProof.Rows L3
open L2 hiding del del_same del_ne
/-- letters -/
structure Lets (sg : List Nat) : Prop where
  ne : 0 < sg.length
  few : sg.length ≤ 3
  up : sg.Pairwise (· < ·)
  az : ∀ c ∈ sg, 97 ≤ c ∧ c ≤ 122
theorem small_codes : (("abcdefghijklmnopqrstuvwxyz" : Str)).cps.toList = (List.range 26).map (· + 97) := by decide +kernel
theorem small_mem {c : Nat} (h : 97 ≤ c ∧ c ≤ 122) : c ∈ (("abcdefghijklmnopqrstuvwxyz" : Str)).cps.toList := by
  rw [small_codes]
  exact List.mem_map.mpr ⟨c - 97, List.mem_range.mpr (by omega), by omega⟩
theorem sz {n : Nat} (h : n ≤ 100000) : n ≤ sizeLine := by rw [sizeLine_eq]; omega
theorem ite_f {b : Bool} {p q : Prop} (e : b = false) (h : q) : if b = true then p else q := by rw [e]; exact h
theorem ite_t {b : Bool} {p q : Prop} (e : b = true) (h : p) : if b = true then p else q := by rw [e]; exact h
theorem u64 {k : Nat} {A : Around} (hr : Room k A) : A.units + 64 < cLine := by have := hr.units; omega
/-- rows: a list or a tuple of lists or tuples of numbers -/
def Rw (K : PySem.W.Frag) (H : Hp) (v : V) (R : List (List Nat)) : Prop := ∃ xs, Sq K H v xs ∧ xs.length = R.length ∧ ∀ (i : Nat) (x : V) (r : List Nat), xs[i]? = some x → R[i]? = some r → Sq K H x (nV r)
theorem Rw.same {K : PySem.W.Frag} {H H' : Hp} {v : V} {R : List (List Nat)} (h : Rw K H v R) (s : Same H H') : Rw K H' v R := by
  obtain ⟨xs, a, b, c⟩ := h
  exact ⟨xs, a.same s, b, fun i x r h1 h2 => (c i x r h1 h2).same s⟩
theorem ty_list {K : PySem.W.Frag} {H : Hp} {a : Addr} {xs : List V} (h : SqL K H a xs) : TyX K H (.ref a) (.type "list") := by
  rcases h with (h | ⟨o, h⟩) | ⟨o, its, n, hk, hc, _⟩
  · exact .base (.lst h)
  · exact .base (.frz h)
  · exact .kList hk hc
theorem ty_tuple {K : PySem.W.Frag} {H : Hp} {a : Addr} {xs : List V} (h : SqT K H a xs) : TyX K H (.ref a) (.type "tuple") := by
  rcases h with (h | ⟨o, h⟩) | ⟨o, its, n, hk, hc, _⟩
  · exact .base (.tup h)
  · exact .fTuple h
  · exact .kTuple hk hc
section
variable {P : Program} {w : World} {K : PySem.W.Frag} {mg : Str → Option Value} {base : Heap}
def spIsInteger : Sp := fun vs H Q _ => ∃ n, vs = [.int n] ∧ Q (.bl true) H
theorem ok_is_integer (T : All K mg) : FnOk P w K mg base CX0 1 T.f_is_integer T.d_is_integer ["value"] spIsInteger := by
  refine T.is_integer.F.ok sc_is_integer (fun vs H Q E h => ?_) (fun cdv A outer s H vs Q E hr h => ?_)
  · obtain ⟨n, rfl, _⟩ := h
    rfl
  · obtain ⟨n, rfl, q⟩ := h
    refine ⟨_, pss_one (ps_ret (pe_and (pe_callB call_isi (by rfl) T.b_isinstance boot_isinstance (pa_cons (pv 0) (pa_cons (pe_bltn (v := .ty "int") (by rfl) T.b_int (by decide +kernel) rfl) pa_nil)))
        (pe_one (pe_not (pe_callB call_isi (by rfl) T.b_isinstance boot_isinstance (pa_cons (pv 0) (pa_cons (pe_bltn (v := .ty "bool") (by rfl) T.b_bool (by decide +kernel) rfl) pa_nil))))))), ?_⟩
    refine ⟨_, rfl, _, .ty "int", .type "int", .type "int", true, rfl, .ty _, .base (.int _), kit_ty (by decide +kernel), true, rfl, iteT ?_⟩
    exact ⟨_, rfl, _, .ty "bool", .type "int", .type "bool", false, rfl, .ty _, .base (.int _), kit_ty (by decide +kernel), _, rfl, q⟩
def spIsList (K : PySem.W.Frag) : Sp := fun vs H Q _ => ∃ v xs, vs = [v] ∧ Sq K H v xs ∧ ∀ H', Same H H' → Q (.bl true) H'
theorem ok_is_list (T : All K mg) : FnOk P w K mg base CX0 1 T.f_is_list T.d_is_list ["value"] (spIsList K) := by
  refine T.is_list.F.ok sc_is_list (fun vs H Q E h => ?_) (fun cdv A outer s H vs Q E hr h => ?_)
  · obtain ⟨n, xs, rfl, _⟩ := h
    rfl
  · obtain ⟨v, xs, rfl, hs, q⟩ := h
    refine ⟨_, pss_one (ps_ret (pe_callB call_isiT (by rfl) T.b_isinstance boot_isinstance (pa_cons (pv 0) (pa_cons (pe_tup (pa_cons (pe_bltn (v := .ty "list") (by rfl) T.b_list (by decide +kernel) rfl) (pa_cons (pe_bltn (v := .ty "tuple") (by rfl) T.b_tuple (by decide +kernel) rfl) pa_nil))) pa_nil)))), ?_⟩
    refine ⟨_, rfl, by show 2 ≤ sizeLine; decide, fun t nt => ?_⟩
    obtain ⟨a, rfl, hS⟩ := hs.same (same_upd (o := .tup [.ty "list", .ty "tuple"]) nt)
    rcases hS with h | h
    · exact ⟨_, t, [.ty "list", .ty "tuple"], .type "list", [.type "list", .type "tuple"], true, rfl, upd_same, .cons (.ty _) (.cons (.ty _) .nil), ty_list h, kitAny_cons (b := true) (kit_ty (by decide +kernel)) (fun z => by cases z) (fun _ => rfl), q _ (same_upd nt)⟩
    · exact ⟨_, t, [.ty "list", .ty "tuple"], .type "tuple", [.type "list", .type "tuple"], true, rfl, upd_same, .cons (.ty _) (.cons (.ty _) .nil), ty_tuple h, kitAny_cons (b := false) (kit_ty (by decide +kernel)) (fun _ => kitAny_cons (b := true) (kit_ty (by decide +kernel)) (fun z => by cases z) (fun _ => rfl)) (fun z => by cases z), q _ (same_upd nt)⟩
def spIsText : Sp := fun vs H Q _ => ∃ l, vs = [tx l] ∧ (∀ c ∈ l, 97 ≤ c ∧ c ≤ 122) ∧ l.length ≤ 1000 ∧ ∀ H', Same H H' → Q (.bl true) H'
theorem ok_is_text (T : All K mg) : FnOk P w K mg base CX0 1 T.f_is_text T.d_is_text ["value"] spIsText := by
  refine T.is_text.F.ok sc_is_text (fun vs H Q E h => ?_) (fun cdv A outer s H vs Q E hr h => ?_)
  · obtain ⟨l, rfl, _⟩ := h
    rfl
  · obtain ⟨l, rfl, hl, hz, q⟩ := h
    obtain ⟨ts, hSMALL⟩ := T.c_SMALL
    refine ⟨_, pss_one (ps_ret (pe_and (pe_callB call_isi (by rfl) T.b_isinstance boot_isinstance (pa_cons (pv 0) (pa_cons (pe_bltn (v := .ty "str") (by rfl) T.b_str (by decide +kernel) rfl) pa_nil)))
        (pe_one (pe_callB (cr_all rfl) (by rfl) T.b_all PyProof.Rows.boot_all (pa_cons (pe_lc (own := [("sign", 1)]) (g := gName 1) (tt := tYes) rfl sc_is_text.nd (pi_str (pv 0))
          (blkOk_by (own := [("sign", 1)]) (N := ["value", "sign"]) (sc := defScope s_is_text) (by decide +kernel))
          (fun _ _ _ _ _ => pg_name (i := 1) sc_is_text.nd rfl (by first | exact Or.inl rfl | exact Or.inr rfl)) (fun _ _ _ _ _ => pts_nil)
          (fun _ _ _ _ _ => (pe_cmpR op_in_sign (pv 1) (pe_glob (v := .str "abcdefghijklmnopqrstuvwxyz") rfl hSMALL ⟨_, rfl⟩) (by rfl)))) pa_nil))))), ?_⟩
    refine ⟨tx l, rfl, tx l, .ty "str", .type "str", .type "str", true, rfl, .ty _, .base (.str _), kit_ty (by decide +kernel), true, rfl, iteT ?_⟩
    refine ⟨tx l, rfl, tS l, rfl, fun D nD => ?_⟩
    refine lc_gen walk_tx (Same H) (fun i acc => acc = List.replicate i (.bl true)) (sz (by omega)) (fun i acc e => by rw [e]; simp) rfl (same_upd nD) (fun _ _ h => same_up h nD) (fun _ _ => trivial) (fun i x H2 H3 acc C N hi r hD ha y c n => ?_) (fun H2 xs r hD ha => ?_)
    · obtain ⟨rfl, ch, hc, rfl⟩ := y
      refine ⟨rfl, yes_te ?_⟩
      refine ⟨_, rfl, ch, _, rfl, rfl, ?_⟩
      rw [decide_eq_true (small_mem (hl ch (List.mem_of_getElem? hc)))]
      exact c _ _ r hD (by rw [ha, List.replicate_succ'])
    · refine ⟨D, List.replicate l.length true, rfl, .inl (.inl ?_), ?_⟩
      · rw [hD, ha]
        simp
      · have e : (List.replicate l.length true).all id = true := by simp
        rw [e]
        exact q _ r
theorem sort_lets {sg : List Nat} (up : sg.Pairwise (· < ·)) {L : List (List Nat)} (hp : L.Perm (lets sg)) (hs : L.Pairwise (· < ·)) : L = sg.map fun c => [c] := by
  have h2 : (sg.map fun c => [c]).Pairwise (· < ·) := by
    rw [List.pairwise_map]
    refine up.imp fun h => ?_
    exact List.cons_lt_cons_iff.mpr (.inl h)
  have hn1 : L.Nodup := hs.imp fun h e => by subst e; exact absurd h (List.lt_irrefl _)
  have hn2 : (sg.map fun c => [c]).Nodup := h2.imp fun h e => by subst e; exact absurd h (List.lt_irrefl _)
  have hp2 : L.Perm (sg.map fun c => [c]) := by
    refine (List.perm_ext_iff_of_nodup hn1 hn2).mpr fun x => ?_
    rw [hp.mem_iff, lets_mem, List.mem_map]
    exact ⟨fun ⟨c, h1, h2⟩ => ⟨c, h1, h2.symm⟩, fun ⟨c, h1, h2⟩ => ⟨c, h1, h2.symm⟩⟩
  exact hp2.eq_of_pairwise (fun a b _ _ h1 h2 => absurd (List.lt_trans h1 h2) (List.lt_irrefl _)) hs h2
def spAreLetters : Sp := fun vs H Q _ => ∃ sg, vs = [tx sg] ∧ Lets sg ∧ ∀ H', Same H H' → Q (.bl true) H'
theorem ok_are_letters (T : All K mg) : FnOk P w K mg base CX0 2 T.f_are_letters T.d_are_letters ["value"] spAreLetters := by
  refine T.are_letters.F.ok sc_are_letters (fun vs H Q E h => ?_) (fun cdv A outer s H vs Q E hr h => ?_)
  · obtain ⟨l, rfl, _⟩ := h
    rfl
  · obtain ⟨sg, rfl, hl, q⟩ := h
    obtain ⟨ts, hMOST_LETTERS⟩ := T.c_MOST_LETTERS
    have hz : sg.length ≤ sizeLine := sz (by have := hl.few; omega)
    refine ⟨_, pss_cons (ps_if (PW.pt (pw_or (pt_not (pt_val (pe_call (ok_is_text T) (hr.mono (by decide)) (by rfl) T.is_text.g T.is_text.F.kp T.is_text.b .nil pass0 (pa_cons (pv 0) pa_nil)))) (pw_or1 (pt_not (pt_chain op_le op_le pe_int (pe_callB call_lenT (by rfl) T.b_len PySem.boot_len (pa_cons (pv 0) pa_nil)) (pe_glob (v := .int 3) rfl hMOST_LETTERS ⟨_, rfl⟩)))))) (pss_one ps_never) pss_nil)
      (pss_one (ps_ret (pe_cmpR (op_eqD (u64 hr)) (pe_callTy (call_listT rfl) (by rfl) T.b_list PyProof.Rows.boot_list (pa_cons (pv 0) pa_nil)) (pe_callB (cr_sortSetT rfl) (by rfl) T.b_sorted PyProof.Rows.boot_sorted (pa_cons (pe_callTy (cr_setT rfl) (by rfl) T.b_set (show bootBuiltins "set" = some (.type "set") by decide +kernel) (pa_cons (pv 0) pa_nil)) pa_nil)) (by rfl)))), ?_⟩
    refine ⟨_, rfl, sg, rfl, hl.az, by have := hl.few; omega, fun H1 s1 => ?_⟩
    refine ⟨true, rfl, iteF ?_⟩
    have e1 : decide ((1 : Int) ≤ (sg.length : Int)) = true := decide_eq_true (by have := hl.ne; omega)
    have e2 : decide ((sg.length : Int) ≤ 3) = true := decide_eq_true (by have := hl.few; omega)
    refine ⟨_, rfl, sg, rfl, hz, _, _, rfl, rfl, _, rfl, ?_⟩
    rw [e1]
    refine iteT ⟨_, _, rfl, rfl, true, congrArg V.bl e2, iteF ?_⟩
    refine ⟨_, rfl, sg, rfl, hz, fun p np => ?_⟩
    refine ⟨_, rfl, sg, rfl, by have := hl.few; omega, fun p2 np2 => ?_⟩
    refine ⟨p2, _, rfl, upd_same, fun L p3 hp hs np3 => ?_⟩
    have eL := sort_lets hl.up hp hs
    subst eL
    have s2 := same_up (o := .lst (sg.map fun c => tx [c])) s1 (s1.free np)
    have n1 : p ≠ p2 := fun e => by subst e; rw [upd_same] at np2; cases np2
    have n2 : p ≠ p3 := fun e => by subst e; rw [upd_ne n1, upd_same] at np3; cases np3
    have w : ∀ d ∈ dTx (sg.map fun c => [c]), Wt d 1 0 := fun d hd => by
      unfold dTx at hd
      rw [List.map_map] at hd
      obtain ⟨c, hc, rfl⟩ := List.mem_map.mp hd
      refine Wt.text (fun x hx => ?_) (by simp)
      rw [List.mem_singleton.mp hx]
      have := hl.az c hc
      omega
    have sh := (Wt.list w (Nat.le_refl _)).shaped (by decide)
    refine ⟨.list (dTx (sg.map fun c => [c])), .list (dTx (sg.map fun c => [c])), .lst (xs := (sg.map fun c => [c]).map tx) (.inl (.inl ?_)) (dp_txs _), .lst (xs := (sg.map fun c => [c]).map tx) (.inl (.inl upd_same)) (dp_txs _), sh, sh, ?_⟩
    · rw [upd_ne n2, upd_ne n1, upd_same, List.map_map]
      rfl
    · have e : PyData.eqv (.list (dTx (sg.map fun c => [c]))) (.list (dTx (sg.map fun c => [c]))) = true := by
        show PyData.eqvAll _ _ = true
        unfold dTx
        rw [eqv_map (α := List Nat) _ (fun a b => ?_) _ _]
        · exact decide_eq_true rfl
        · show (tS a == tS b) = _
          by_cases h : a = b
          · subst h; simp
          · rw [decide_eq_false h]; exact beq_eq_false_iff_ne.mpr fun z => h (tS_inj z)
      rw [e]
      refine q _ (same_up (same_up s2 ?_) ?_)
      · exact s2.free np2
      · exact (same_up s2 (s2.free np2)).free np3
def spWantFew : Sp := fun vs H Q _ => ∃ (x : V) (m n : Int), vs = [x, .int m, .int n] ∧ m ≤ n ∧ Q .non H
theorem ok_want_few (T : All K mg) : FnOk P w K mg base CX0 1 T.f_want_few T.d_want_few ["what", "many", "limit"] spWantFew := by
  refine T.want_few.F.ok sc_want_few (fun vs H Q E h => ?_) (fun cdv A outer s H vs Q E hr h => ?_)
  · obtain ⟨x, m, n, rfl, _⟩ := h
    rfl
  · obtain ⟨x, m, n, rfl, hmn, q⟩ := h
    refine ⟨_, pss_one (ps_if (pt_cmpR op_gt (pv 1) (pv 2) (nomark _)) (pss_one ps_never) pss_nil), ?_⟩
    refine ⟨_, rfl, _, rfl, m, n, rfl, rfl, _, rfl, ite2 (fun e => ?_) (fun e => q)⟩
    have := of_decide_eq_true e
    show False
    omega
def spTextOver (K : PySem.W.Frag) : Sp := fun vs H Q _ => ∃ sg v, vs = [tx sg, v] ∧ ((∃ t, v = tx t ∧ t.length ≤ 1000 ∧ ∀ H', Same H H' → Q (.bl (t.all fun c => decide (c ∈ sg))) H') ∨ (∃ ty, TyX K H v (.type ty) ∧ kitB ty "str" = some false ∧ Q (.bl false) H))
theorem ok_is_text_over (T : All K mg) : FnOk P w K mg base CX0 1 T.f_is_text_over T.d_is_text_over ["letters", "value"] (spTextOver K) := by
  refine T.is_text_over.F.ok sc_is_text_over (fun vs H Q E h => ?_) (fun cdv A outer s H vs Q E hr h => ?_)
  · obtain ⟨l, v, rfl, _⟩ := h
    rfl
  · obtain ⟨sg, v, rfl, h⟩ := h
    refine ⟨_, pss_one (ps_ret (pe_and (pe_callB call_isi (by rfl) T.b_isinstance boot_isinstance (pa_cons (pv 1) (pa_cons (pe_bltn (v := .ty "str") (by rfl) T.b_str (by decide +kernel) rfl) pa_nil)))
        (pe_one (pe_callB (cr_all rfl) (by rfl) T.b_all PyProof.Rows.boot_all (pa_cons (pe_lc (own := [("sign", 2)]) (g := gName 2) (tt := tYes) rfl sc_is_text_over.nd (pi_str (pv 1))
          (blkOk_by (own := [("sign", 2)]) (N := ["letters", "value", "sign"]) (sc := defScope s_is_text_over) (by decide +kernel))
          (fun _ _ _ _ _ => pg_name (i := 2) sc_is_text_over.nd rfl (by first | exact Or.inl rfl | exact Or.inr rfl)) (fun _ _ _ _ _ => pts_nil)
          (fun _ _ _ _ _ => (pe_cmpR op_in_sign (pv 2) (pv 0) (by rfl)))) pa_nil))))), ?_⟩
    rcases h with ⟨t, rfl, hz, q⟩ | ⟨ty, hty, hk, q⟩
    · refine ⟨tx t, rfl, tx t, .ty "str", .type "str", .type "str", true, rfl, .ty _, .base (.str _), kit_ty (by decide +kernel), true, rfl, iteT ?_⟩
      refine ⟨tx t, rfl, tS t, rfl, fun D nD => ?_⟩
      refine lc_gen walk_tx (Same H) (fun i acc => acc = ((t.take i).map fun c => decide (c ∈ sg)).map V.bl) (sz (by omega)) (fun i acc e => by rw [e]; simp; omega) rfl (same_upd nD) (fun _ _ h => same_up h nD) (fun _ _ => trivial) (fun i x H2 H3 acc C N hi r hD ha y c n => ?_) (fun H2 xs r hD ha => ?_)
      · obtain ⟨rfl, ch, hc, rfl⟩ := y
        refine ⟨rfl, yes_te ?_⟩
        refine ⟨_, rfl, _, rfl, ch, tS sg, rfl, rfl, ?_⟩
        refine c _ _ r hD ?_
        rw [ha, List.take_add_one, hc]
        simp [tS]
      · subst ha
        rw [List.take_length] at hD
        refine ⟨D, t.map fun c => decide (c ∈ sg), rfl, .inl (.inl hD), ?_⟩
        have e : (t.map fun c => decide (c ∈ sg)).all id = t.all fun c => decide (c ∈ sg) := by rw [List.all_map]; rfl
        rw [e]
        exact q _ r
    · refine ⟨v, rfl, v, .ty "str", .type ty, .type "str", false, rfl, .ty _, hty, kit_ty hk, false, rfl, iteF q⟩
def spIsRow (K : PySem.W.Frag) : Sp := fun vs H Q _ => ∃ (v : V) (r : List Nat) (m : Nat), vs = [v, .int (r.length : Int), .int (m : Int)] ∧ Sq K H v (nV r) ∧ (∀ g ∈ r, g < m) ∧ r.length ≤ 1000 ∧ ∀ H', Same H H' → Q (.bl true) H'
theorem ok_is_row (T : All K mg) : FnOk P w K mg base CX0 2 T.f_is_row T.d_is_row ["value", "size", "many"] (spIsRow K) := by
  refine T.is_row.F.ok sc_is_row (fun vs H Q E h => ?_) (fun cdv A outer s H vs Q E hr h => ?_)
  · obtain ⟨v, r, m, rfl, _⟩ := h
    rfl
  · obtain ⟨v, r, m, rfl, hS, hm, hz, q⟩ := h
    refine ⟨_, pss_cons (ps_if (PW.pt (pw_or (pt_not (pt_val (pe_call (ok_is_list T) (hr.mono (by decide)) (by rfl) T.is_list.g T.is_list.F.kp T.is_list.b .nil pass0 (pa_cons (pv 0) pa_nil)))) (pw_or1 (pt_cmpR op_ne (pe_callB call_len_seq (by rfl) T.b_len PySem.boot_len (pa_cons (pv 0) pa_nil)) (pv 1) (nomark _))))) (pss_one ps_never) pss_nil)
      (pss_one (ps_ret (pe_callB (cr_all rfl) (by rfl) T.b_all PyProof.Rows.boot_all (pa_cons (pe_lc (own := [("goal", 3)]) (g := gName 3) (tt := tYes) rfl sc_is_row.nd (pi_sq (pv 0))
          (blkOk_by (own := [("goal", 3)]) (N := ["value", "size", "many", "goal"]) (sc := defScope s_is_row) (by decide +kernel))
          (fun _ _ _ _ _ => pg_name (i := 3) sc_is_row.nd rfl (by first | exact Or.inl rfl | exact Or.inr rfl)) (fun _ _ _ _ _ => pts_nil)
          (fun _ _ _ _ _ => (pe_and (pe_call (ok_is_integer T) (hr.mono (by decide)) (by rfl) T.is_integer.g T.is_integer.F.kp T.is_integer.b .nil pass0 (pa_cons (pv 3) pa_nil))
        (pe_one (pe_chain op_le op_lt pe_int (pv 3) (pv 2)))))) pa_nil)))), ?_⟩
    refine ⟨_, rfl, v, _, rfl, hS, fun H1 s1 => ?_⟩
    have hS1 := hS.same s1
    obtain ⟨a, rfl, hS1'⟩ := id hS1
    refine ⟨true, rfl, iteF ?_⟩
    refine ⟨_, rfl, a, _, rfl, hS1', _, rfl, rfl, _, rfl, ?_⟩
    rw [nV_len]
    refine ite_f (by simp) ?_
    refine ⟨_, rfl, _, H1, hS1, Same.refl _, fun J G wk hG D nD => ?_⟩
    refine lc_gen wk (Same H1) (fun i acc => acc = List.replicate i (.bl true)) (by rw [nV_len]; exact sz (by omega)) (fun i acc e => by rw [e]; simp) rfl (same_upd nD) (fun _ _ h => same_up h nD) (fun _ h => hG _ h) (fun i x H2 H3 acc C N hi rs hD ha y c n => ?_) (fun H2 xs rs hD ha => ?_)
    · obtain ⟨rfl, y⟩ := y
      obtain ⟨g, hg, rfl⟩ := nV_inv y
      have hgm := hm g (List.mem_of_getElem? hg)
      refine ⟨rfl, yes_te ?_⟩
      refine ⟨_, rfl, _, rfl, true, rfl, iteT ?_⟩
      refine ⟨_, rfl, _, _, rfl, rfl, _, rfl, ite_t (decide_eq_true (by omega)) ?_⟩
      refine ⟨_, rfl, _, _, rfl, rfl, ?_⟩
      show C (V.bl (decide ((g : Int) < (m : Int)))) _
      rw [decide_eq_true (by omega)]
      exact c _ _ rs hD (by rw [ha, List.replicate_succ'])
    · refine ⟨D, List.replicate r.length true, rfl, .inl (.inl ?_), ?_⟩
      · rw [hD, ha, nV_len]
        simp
      · have e : (List.replicate r.length true).all id = true := by simp
        rw [e]
        exact q _ (s1.trans rs)
def spWantMachine (K : PySem.W.Frag) : Sp := fun vs H Q _ => ∃ (sg : List Nat) (a b : V) (R : List (List Nat)) (k : List Bool), vs = [tx sg, a, b] ∧ Lets sg ∧ Rw K H a R ∧ Sq K H b (k.map V.bl) ∧ M14.Sht sg.length R k ∧ ∀ H', Same H H' → Q .non H'
theorem ok_want_machine (T : All K mg) : FnOk P w K mg base CX0 3 T.f_want_machine T.d_want_machine ["letters", "rows", "kinds"] (spWantMachine K) := by
  refine T.want_machine.F.ok sc_want_machine (fun vs H Q E h => ?_) (fun cdv A outer s H vs Q E hr h => ?_)
  · obtain ⟨sg, a, b, R, k, rfl, _⟩ := h
    rfl
  · obtain ⟨sg, a, b, R, k, rfl, hl, hR, hk, hG, q⟩ := h
    have zsg : sg.length ≤ sizeLine := sz (by have := hl.few; omega)
    refine ⟨_, pss_cons (ps_if (pt_not (pt_val (pe_call (ok_are_letters T) (hr.mono (by decide)) (by rfl) T.are_letters.g T.are_letters.F.kp T.are_letters.b .nil pass0 (pa_cons (pv 0) pa_nil)))) (pss_one ps_never) pss_nil)
      (pss_cons (ps_if (PW.pt (pw_or (pt_not (pt_val (pe_call (ok_is_list T) (hr.mono (by decide)) (by rfl) T.is_list.g T.is_list.F.kp T.is_list.b .nil pass0 (pa_cons (pv 1) pa_nil)))) (pw_or1 (pt_cmpR op_eq (pe_callB call_len_seq (by rfl) T.b_len PySem.boot_len (pa_cons (pv 1) pa_nil)) pe_int (nomark _))))) (pss_one ps_never) pss_nil)
      (pss_cons (ps_for PassesOwn.never rfl (pi_enumS rfl T.b_enumerate (pa_cons (pv 1) pa_nil)) (pg_tup rfl (pgs_cons (pg_name (i := 3) sc_want_machine.nd rfl (by first | exact Or.inl rfl | exact Or.inr rfl)) (pgs_cons (pg_name (i := 4) sc_want_machine.nd rfl (by first | exact Or.inl rfl | exact Or.inr rfl)) pgs_nil)))
        (pss_one (ps_if (pt_not (pt_val (pe_call (ok_is_row T) (hr.mono (by decide)) (by rfl) T.is_row.g T.is_row.F.kp T.is_row.b .nil pass0 (pa_cons (pv 4) (pa_cons (pe_callB call_lenT (by rfl) T.b_len PySem.boot_len (pa_cons (pv 0) pa_nil)) (pa_cons (pe_callB call_len_seq (by rfl) T.b_len PySem.boot_len (pa_cons (pv 1) pa_nil)) pa_nil)))))) (pss_one ps_never) pss_nil)))
      (pss_cons (ps_if (PW.pt (pw_or (pt_not (pt_val (pe_call (ok_is_list T) (hr.mono (by decide)) (by rfl) T.is_list.g T.is_list.F.kp T.is_list.b .nil pass0 (pa_cons (pv 2) pa_nil)))) (pw_or1 (pt_cmpR op_ne (pe_callB call_len_seq (by rfl) T.b_len PySem.boot_len (pa_cons (pv 2) pa_nil)) (pe_callB call_len_seq (by rfl) T.b_len PySem.boot_len (pa_cons (pv 1) pa_nil)) (nomark _))))) (pss_one ps_never) pss_nil)
      (pss_cons (ps_for PassesOwn.never rfl (pi_enumS rfl T.b_enumerate (pa_cons (pv 2) pa_nil)) (pg_tup rfl (pgs_cons (pg_name (i := 3) sc_want_machine.nd rfl (by first | exact Or.inl rfl | exact Or.inr rfl)) (pgs_cons (pg_name (i := 5) sc_want_machine.nd rfl (by first | exact Or.inl rfl | exact Or.inr rfl)) pgs_nil)))
        (pss_one (ps_if (pt_not (pt_val (pe_callB call_isi (by rfl) T.b_isinstance boot_isinstance (pa_cons (pv 5) (pa_cons (pe_bltn (v := .ty "bool") (by rfl) T.b_bool (by decide +kernel) rfl) pa_nil))))) (pss_one ps_never) pss_nil)))
      (pss_one (ps_expr (pe_call (ok_want_few T) (hr.mono (by decide)) (by rfl) T.want_few.g T.want_few.F.kp T.want_few.b .nil pass0 (pa_cons pe_str (pa_cons (pe_callB call_len_seq (by rfl) T.b_len PySem.boot_len (pa_cons (pv 1) pa_nil)) (pa_cons (ClX.pe_cval (pe_glob (v := .ref T.C_Machine) rfl T.g_Machine rfl)) pa_nil)))))))))), ?_⟩
    refine ⟨_, rfl, sg, rfl, hl, fun H1 s1 => ⟨true, rfl, iteF ?_⟩⟩
    obtain ⟨xs, hS, hlen, hrow⟩ := id hR
    refine ⟨_, rfl, a, xs, rfl, hS.same s1, fun H2 s2 => ⟨true, rfl, iteF ?_⟩⟩
    have s12 := s1.trans s2
    obtain ⟨aa, rfl, hSS⟩ := hS.same s12
    refine ⟨_, rfl, aa, xs, rfl, hSS, rfl, _, rfl, ite_f (decide_eq_false fun z => ?_) ?_⟩
    · have := hG.ne
      have := V.int.inj z
      omega
    obtain ⟨y, ey, hy⟩ := sq_src hS
    refine ⟨_, rfl, y, xs, congrArg (fun z => [z]) ey, hy _ s12, for_it walk_enumS (fun i σ H' => ∃ p r, σ = [some (tx sg), some (.ref aa), some b, p, r, none] ∧ Same H H') ⟨none, none, rfl, s12⟩ (fun i σ H' _ p => by obtain ⟨_, _, _, sm⟩ := p; exact hy _ sm) (fun i x σ H3 H4 hi p y => ?_) (fun σ H3 p => ?_)⟩
    · obtain ⟨p0, r0, rfl, sm⟩ := p
      obtain ⟨Tp, x1, x2, rfl, nT, rfl, e1, e2⟩ := y
      cases e1
      obtain ⟨r, hr1⟩ : ∃ r, R[i]? = some r := ⟨R[i]'(by omega), List.getElem?_eq_getElem (by omega)⟩
      have hrm : r ∈ R := List.mem_of_getElem? hr1
      have hrl := hG.len r hrm
      have sm2 := same_up (o := .tup [.int (i : Nat), x2]) sm (sm.free nT)
      refine ⟨Tp, _, rfl, .inl (.inl upd_same), rfl, _, _, rfl, _, _, rfl, rfl, ?_⟩
      refine ⟨_, rfl, _, rfl, sg, rfl, zsg, _, rfl, aa, xs, rfl, (by obtain ⟨z, e, h⟩ := hS.same sm2; cases e; exact h), ?_⟩
      refine ⟨x2, r, R.length, by rw [hrl, hlen]; rfl, (hrow i x2 r e2 hr1).same sm2, fun g hg => ?_, by have := hl.few; omega, fun H5 s5 => ⟨true, rfl, iteF ⟨_, _, rfl, sm2.trans s5⟩⟩⟩
      have hi2 : i < R.length := by omega
      exact hG.val i hi2 g (by rw [M14.row_get hr1]; exact hg)
    · obtain ⟨p0, r0, rfl, s3⟩ := p
      have ek : (k.map V.bl).length = R.length := by rw [List.length_map]; exact hG.kin
      refine ⟨_, rfl, b, _, rfl, hk.same s3, fun H4 s4 => ⟨true, rfl, iteF ?_⟩⟩
      have s34 := s3.trans s4
      obtain ⟨bb, rfl, hkk⟩ := hk.same s34
      refine ⟨_, rfl, bb, _, rfl, hkk, _, rfl, aa, xs, rfl, (by obtain ⟨z, e, h⟩ := hS.same s34; cases e; exact h), rfl, _, rfl, ite_f ?_ ?_⟩
      · rw [ek, hlen]; simp
      obtain ⟨y2, ey2, hy2⟩ := sq_src hk
      refine ⟨_, rfl, y2, _, congrArg (fun z => [z]) ey2, hy2 _ s34, for_it walk_enumS (fun i σ H' => ∃ p r kk, σ = [some (tx sg), some (.ref aa), some (.ref bb), p, r, kk] ∧ Same H H') ⟨_, _, _, rfl, s34⟩ (fun i σ H' _ p => by obtain ⟨_, _, _, _, sm⟩ := p; exact hy2 _ sm) (fun i x σ H5 H6 hi p y => ?_) (fun σ H5 p => ?_)⟩
      · obtain ⟨p0, r0, k0, rfl, sm⟩ := p
        obtain ⟨Tp, x1, x2, rfl, nT, rfl, e1, e2⟩ := y
        cases e1
        have e2 : (k.map V.bl)[i]? = some x2 := e2
        rw [List.getElem?_map] at e2
        obtain ⟨kb, hkb, rfl⟩ := Option.map_eq_some_iff.mp e2
        have sm2 := same_up (o := .tup [.int (i : Nat), .bl kb]) sm (sm.free nT)
        refine ⟨Tp, _, rfl, .inl (.inl upd_same), rfl, _, _, rfl, _, _, rfl, rfl, ?_⟩
        refine ⟨_, rfl, _, .ty "bool", .type "bool", .type "bool", true, rfl, .ty _, .base (.bl _), kit_ty (by decide +kernel), true, rfl, iteF ⟨_, _, _, rfl, sm2⟩⟩
      · obtain ⟨p0, r0, k0, rfl, s5⟩ := p
        obtain ⟨tk, hcv⟩ := T.cv_Machine_MOST_PLACES
        refine ⟨_, rfl, aa, xs, rfl, (by obtain ⟨z, e, h⟩ := hS.same s5; cases e; exact h), T.C_Machine, .type "type", _, _, rfl, T.cr_Machine, hcv, ?_⟩
        refine ⟨_, _, _, rfl, ?_, q _ s5⟩
        have := hG.few
        omega
end
end Lw
namespace Lw
open PySem PySem.Spec PyProof.Rows L3
open L2 hiding del del_same del_ne
/-- a while that counts -/
theorem while_n {c : TT} {tb : TS} {D : Ends} {σ : L2.St} {H : Hp} (Pv : Nat → L2.St → Hp → Prop) (N : Nat) (h0 : Pv 0 σ H)
    (hs : ∀ n σ H, Pv n σ H → ∀ Kc : Bool → Hp → Prop, (∀ H1, n < N → tb { D with nx := Pv (n + 1), ct := Pv (n + 1), bk := D.nx } σ H1 → Kc true H1) → (∀ H1, D.nx σ H1 → Kc false H1) → c σ H Kc) : tWhile c tb D σ H := by
  refine ⟨fun m σ H => ∃ n, m = N - n ∧ Pv n σ H, ⟨_, 0, rfl, h0⟩, ?_⟩
  rintro m σ H ⟨n, rfl, p⟩
  refine hs n σ H p _ (fun H1 hn h => ?_) (fun H1 h => ?_)
  · exact iteT ⟨Pv (n + 1), fun σ' H' p' => ⟨N - (n + 1), by omega, n + 1, rfl, p'⟩, h⟩
  · exact iteF h
theorem Rw.row {K : PySem.W.Frag} {H : Hp} {v : V} {R : List (List Nat)} (h : Rw K H v R) {p : Nat} (hp : p < R.length) : ∃ xs x, Sq K H v xs ∧ xs[p]? = some x ∧ Sq K H x (nV (M14.row R p)) := by
  obtain ⟨xs, hS, hl, hr⟩ := h
  have hx : p < xs.length := by omega
  exact ⟨xs, xs[p], hS, List.getElem?_eq_getElem hx, hr p _ _ (List.getElem?_eq_getElem hx) (M14.row_at hp)⟩
section
variable {P : Program} {w : World} {K : PySem.W.Frag} {mg : Str → Option Value} {base : Heap}
def spMet (K : PySem.W.Frag) : Sp := fun vs H Q _ => ∃ (a : V) (R : List (List Nat)) (st : Nat), vs = [a, .int (st : Int)] ∧ Rw K H a R ∧ M14.Val R ∧ st < R.length ∧ R.length ≤ 40 ∧ ∀ H' p, Same H H' → H p = none → H' p = some (.lst (nV (M14.met R st))) → Q (.ref p) H'
theorem ok_met_from (T : All K mg) : FnOk P w K mg base CX0 1 T.f_met_from T.d_met_from ["rows", "start"] (spMet K) := by
  refine T.met_from.F.ok sc_met_from (fun vs H Q E h => ?_) (fun cdv A outer s H vs Q E hr h => ?_)
  · obtain ⟨a, R, st, rfl, _⟩ := h
    rfl
  · obtain ⟨a, R, st, rfl, hR, hv, hst, hfew, q⟩ := h
    refine ⟨_, pss_cons (ps_set (i := 2) sc_met_from.nd rfl (by first | exact Or.inl rfl | exact Or.inr rfl) (pe_lst pa_nil))
      (pss_cons (ps_expr (pe_bm PySem.F.plainAttrs_list PySem.F.slot_list_append PySem.F.type_list_append mt_append (pv 2) (pa_cons (pv 1) pa_nil)))
      (pss_cons (ps_set (i := 3) sc_met_from.nd rfl (by first | exact Or.inl rfl | exact Or.inr rfl) pe_int)
      (pss_cons (ps_while PassesOwn.never (pt_cmpR op_lt (pv 3) (pe_callB call_len_seq (by rfl) T.b_len PySem.boot_len (pa_cons (pv 2) pa_nil)) (nomark _))
        (pss_cons (ps_for PassesOwn.never rfl (pi_sq (pe_ix ix_sq (pv 0) (pe_ix ix_list (pv 2) (pv 3) (fun _ _ => rfl)) (fun _ _ => rfl))) (pg_name (i := 4) sc_met_from.nd rfl (by first | exact Or.inl rfl | exact Or.inr rfl))
        (pss_one (ps_if (pt_cmpR op_notInN (pv 4) (pv 2) (by rfl)) (pss_one (ps_expr (pe_bm PySem.F.plainAttrs_list PySem.F.slot_list_append PySem.F.type_list_append mt_append (pv 2) (pa_cons (pv 4) pa_nil)))) pss_nil)))
      (pss_one (ps_set (i := 3) sc_met_from.nd rfl (by first | exact Or.inl rfl | exact Or.inr rfl) (pe_op op_add (pv 3) pe_int)))))
      (pss_one (ps_ret (pv 2)))))), ?_⟩
    refine ⟨by show 0 ≤ sizeLine; decide, fun D nD => ?_⟩
    refine ⟨_, rfl, .inl ⟨rfl, _, .inl (.inl upd_same)⟩, _, rfl, D, _, _, rfl, rfl, upd_same, by show 0 < sizeLine; decide, ?_⟩
    rw [upd_upd]
    refine while_n (fun n σ H' => ∃ g, σ = [some a, some (.int (st : Int)), some (.ref D), some (.int (n : Int)), g] ∧ H' D = some (.lst (nV (M14.metI R st n))) ∧ Same H H') 40 ⟨none, rfl, upd_same, same_upd nD⟩ (fun n σ H1 p Kc kt kf => ?_)
    obtain ⟨g0, rfl, hD, sm⟩ := p
    have hlen := M14.metI_len hv hst n
    refine ⟨_, rfl, _, rfl, D, _, rfl, .inl (.inl (.inl hD)), _, _, rfl, rfl, _, rfl, ?_⟩
    rw [nV_len]
    by_cases hlt : n < (M14.metI R st n).length
    · rw [decide_eq_true (by omega : (n : Int) < ((M14.metI R st n).length : Int))]
      refine kt _ (by omega) ?_
      have hgt : (M14.metI R st n)[n]? = some (M14.metI R st n)[n] := List.getElem?_eq_getElem hlt
      generalize (M14.metI R st n)[n] = p at hgt
      have hp : p < R.length := M14.metI_lt hv hst n p (List.mem_of_getElem? hgt)
      obtain ⟨xs, x, hS, hx, hSx⟩ := hR.row hp
      refine ⟨_, rfl, _, rfl, _, rfl, D, _, _, _, rfl, rfl, .inl (.inl hD), atI_nat (nV_get hgt), xs, _, x, hS.same sm, rfl, atI_nat hx, _, H, hSx, sm, fun J G wk hG => ?_⟩
      refine for_it wk (fun i σ H' => ∃ g, σ = [some a, some (.int (st : Int)), some (.ref D), some (.int (n : Int)), g] ∧ H' D = some (.lst (nV (((M14.row R p).take i).foldl M14.addG (M14.metI R st n)))) ∧ Same H H') ⟨_, rfl, hD, sm⟩ (fun i σ H' _ p => by obtain ⟨_, _, _, sm⟩ := p; exact hG _ sm) (fun i x σ H2 H3 hi p' y => ?_) (fun σ H2 p' => ?_)
      · obtain ⟨g1, rfl, hD2, sm2⟩ := p'
        obtain ⟨rfl, y⟩ := y
        obtain ⟨g, hg, rfl⟩ := nV_inv y
        have hstep : ((M14.row R p).take (i + 1)).foldl M14.addG (M14.metI R st n) = M14.addG (((M14.row R p).take i).foldl M14.addG (M14.metI R st n)) g := by
          rw [List.take_add_one, hg, List.foldl_append]; rfl
        refine ⟨_, rfl, _, rfl, _, g, rfl, sq_list (.inl (.inl hD2)), _, rfl, ?_⟩
        by_cases hm : g ∈ ((M14.row R p).take i).foldl M14.addG (M14.metI R st n)
        · refine ite_f (by simp [hm]) ?_
          refine ⟨_, rfl, ?_, sm2⟩
          rw [hstep, hD2, M14.addG, if_pos hm]
        · refine ite_t (by simp [hm]) ?_
          have hlen2 : (((M14.row R p).take i).foldl M14.addG (M14.metI R st n)).length ≤ R.length := M14.nodup_len _ _ (M14.fold_nodup (M14.metI_nodup R st n)) fun z hz => by
            rcases M14.fold_mem.mp hz with hz | hz
            · exact M14.metI_lt hv hst n z hz
            · exact hv p hp z (List.mem_of_mem_take hz)
          refine ⟨_, rfl, .inl ⟨rfl, _, .inl (.inl hD2)⟩, _, rfl, D, _, _, rfl, rfl, hD2, by rw [nV_len]; exact Nat.lt_of_lt_of_le (Nat.lt_succ_of_le hlen2) (sz (by omega)), ?_⟩
          refine ⟨_, rfl, ?_, same_up sm2 nD⟩
          rw [upd_same, hstep, M14.addG, if_neg hm]
          unfold nV
          rw [List.map_append]
          rfl
      · obtain ⟨g1, rfl, hD2, sm2⟩ := p'
        rw [nV_len, List.take_length, ← M14.metI_succ hgt] at hD2
        exact ⟨_, rfl, _, _, rfl, rfl, _, by simp; rfl, hD2, sm2⟩
    · rw [decide_eq_false (by omega : ¬ (n : Int) < ((M14.metI R st n).length : Int))]
      refine kf _ ?_
      refine ⟨_, rfl, q _ D sm nD ?_⟩
      rw [hD, M14.met_of hv hst (by omega)]
end
end Lw
namespace Lw
open PySem PySem.Spec PyProof.Rows L3
open L2 hiding del del_same del_ne
open L2 hiding del del_same del_ne
def dTR (R : List (List Nat)) : PyData := .tuple (R.map fun r => .tuple (dN r))
def dLR (R : List (List Nat)) : PyData := .list (R.map fun r => .list (dN r))
theorem rw_dTR {K : PySem.W.Frag} {H : Hp} {v : V} {R : List (List Nat)} (h : Dp K H v (dTR R)) : Rw K H v R := by
  obtain ⟨a, xs, rfl, hS, hA⟩ := dp_tuple h
  refine ⟨xs, sq_tuple hS, by rw [dpAll_len hA, List.length_map], fun i x r h1 h2 => ?_⟩
  obtain ⟨d, h3, h4⟩ := dpAll_back hA h1
  rw [List.getElem?_map, h2] at h3
  cases h3
  obtain ⟨b, ys, rfl, hS2, hA2⟩ := dp_tuple h4
  rw [dpAll_nats hA2] at hS2
  exact sq_tuple hS2
theorem rw_dLR {K : PySem.W.Frag} {H : Hp} {v : V} {R : List (List Nat)} (h : Dp K H v (dLR R)) : Rw K H v R := by
  obtain ⟨a, xs, rfl, hS, hA⟩ := dp_list h
  refine ⟨xs, sq_list hS, by rw [dpAll_len hA, List.length_map], fun i x r h1 h2 => ?_⟩
  obtain ⟨d, h3, h4⟩ := dpAll_back hA h1
  rw [List.getElem?_map, h2] at h3
  cases h3
  obtain ⟨b, ys, rfl, hS2, hA2⟩ := dp_list h4
  rw [dpAll_nats hA2] at hS2
  exact sq_list hS2
theorem putF_len (f : Str) (v : V) : ∀ fs : List (Str × V), (putF f v fs).length ≤ fs.length + 1
  | [] => Nat.le_refl _
  | (g, x) :: fs => by
    unfold putF
    split
    · exact Nat.le_succ _
    · rw [List.length_cons, List.length_cons]
      exact Nat.succ_le_succ (putF_len f v fs)
theorem putF_lt {f : Str} {v : V} {fs : List (Str × V)} {n : Nat} (h : fs.length ≤ n) (hn : n + 1 < 1000) : (putF f v fs).length < 1000 := Nat.lt_of_le_of_lt (Nat.le_trans (putF_len f v fs) (Nat.succ_le_succ h)) hn
/-- a machine at a -/
structure Mach (C : Addr) (K : PySem.W.Frag) (H : Hp) (a : Addr) (sg : List Nat) (R : List (List Nat)) (k : List Bool) : Prop where
  at_ : ∃ dx r q, H a = some (.ins C dx [("own_letters", tx sg), ("own_rows", .ref r), ("own_kinds", .ref q)]) ∧ Dp K H (.ref r) (dTR R) ∧ SqT K H q (k.map V.bl)
  lets : Lets sg
  good : M14.Good sg.length R k
theorem Mach.same {C : Addr} {K : PySem.W.Frag} {H H' : Hp} {a : Addr} {sg : List Nat} {R : List (List Nat)} {k : List Bool} (h : Mach C K H a sg R k) (s : Same H H') : Mach C K H' a sg R k := by
  obtain ⟨⟨dx, r, q, h1, h2, h3⟩, h4, h5⟩ := h
  exact ⟨⟨dx, r, q, s _ _ h1, Dp.same s h2, sqT_same h3 s⟩, h4, h5⟩
section
variable {P : Program} {w : World} {K : PySem.W.Frag} {mg : Str → Option Value} {base : Heap}
def spInit (K : PySem.W.Frag) (C : Addr) : Sp := fun vs H Q _ => ∃ (x dx : Addr) (sg : List Nat) (a b : V) (R : List (List Nat)) (k : List Bool), vs = [.ref x, tx sg, a, b] ∧ H x = some (.ins C dx []) ∧ Lets sg ∧ Rw K H a R ∧ Sq K H b (k.map V.bl) ∧ M14.Good sg.length R k ∧
  ∀ H', (∀ b o, H b = some o → b ≠ x → H' b = some o) → Mach C K H' x sg R k → Q .non H'
theorem ok_Machine_init (T : All K mg) : FnOk P w K mg base CX0 4 T.f_Machine_init T.d_Machine_init ["self", "letters", "rows", "kinds"] (spInit K T.C_Machine) := by
  refine T.Machine_init.F.ok sc_Machine_init (fun vs H Q E h => ?_) (fun cdv A outer s H vs Q E hr h => ?_)
  · obtain ⟨x, dx, sg, a, b, R, k, rfl, _⟩ := h
    rfl
  · obtain ⟨x, dx, sg, a, b, R, k, rfl, hx, hl, hR, hk, hG, q⟩ := h
    refine ⟨_, pss_cons (ps_expr (pe_call (ok_want_machine T) (hr.mono (by decide)) (by rfl) T.want_machine.g T.want_machine.F.kp T.want_machine.b .nil pass0 (pa_cons (pv 1) (pa_cons (pv 2) (pa_cons (pv 3) pa_nil)))))
      (pss_cons (ps_set (i := 4) sc_Machine_init.nd rfl (by first | exact Or.inl rfl | exact Or.inr rfl) (pe_call (ok_met_from T) (hr.mono (by decide)) (by rfl) T.met_from.g T.met_from.F.kp T.met_from.b .nil pass0 (pa_cons (pv 2) (pa_cons pe_int pa_nil))))
      (pss_cons (ps_for PassesOwn.never rfl (pi_range1 rfl T.b_range (pa_cons (pe_callB call_len_seq (by rfl) T.b_len PySem.boot_len (pa_cons (pv 2) pa_nil)) pa_nil)) (pg_name (i := 5) sc_Machine_init.nd rfl (by first | exact Or.inl rfl | exact Or.inr rfl))
        (pss_one (ps_if (pt_cmpR op_notInN (pv 5) (pv 4) (by rfl)) (pss_one ps_never) pss_nil)))
      (pss_cons (ps_fld (pv 0) (pv 1) rfl)
      (pss_cons (ps_fld (pv 0) (pe_callTy call_tuple_of (by rfl) T.b_tuple (show bootBuiltins "tuple" = some (.type "tuple") by decide +kernel) (pa_cons (pe_lc (own := [("row", 6)]) (g := gName 6) (tt := tYes) rfl sc_Machine_init.nd (pi_sq (pv 2))
          (blkOk_by (own := [("row", 6)]) (N := ["self", "letters", "rows", "kinds", "met", "place", "row"]) (sc := defScope s_Machine_init) (by decide +kernel))
          (fun _ _ _ _ _ => pg_name (i := 6) sc_Machine_init.nd rfl (by first | exact Or.inl rfl | exact Or.inr rfl)) (fun _ _ _ _ _ => pts_nil)
          (fun _ _ _ _ _ => (pe_callTy (call_tuple_ofK (K := K) rfl) (by rfl) T.b_tuple (show bootBuiltins "tuple" = some (.type "tuple") by decide +kernel) (pa_cons (pv 6) pa_nil)))) pa_nil)) rfl)
      (pss_one (ps_fld (pv 0) (pe_callTy call_tuple_of (by rfl) T.b_tuple (show bootBuiltins "tuple" = some (.type "tuple") by decide +kernel) (pa_cons (pv 3) pa_nil)) rfl)))))), ?_⟩
    refine ⟨_, rfl, _, rfl, _, rfl, sg, a, b, R, k, rfl, hl, hR, hk, hG.toSht, fun H1 s1 => ?_⟩
    refine ⟨_, rfl, a, R, 0, rfl, hR.same s1, hG.val, hG.ne, hG.few, fun H2 M s2 nM hM => ?_⟩
    have s12 := s1.trans s2
    obtain ⟨xs, hS, hlen, hrow⟩ := id hR
    obtain ⟨aa, rfl, hSS⟩ := hS.same s12
    refine ⟨_, rfl, aa, xs, rfl, hSS, _, rfl, by omega, by have := hG.few; omega, ?_⟩
    rw [show ((xs.length : Int)).toNat = xs.length by omega]
    refine for_it walk_range (fun i σ H' => ∃ p, σ = [some (.ref x), some (tx sg), some (.ref aa), some b, some (.ref M), p, none] ∧ H' = H2) ⟨none, rfl, rfl⟩ (fun _ _ _ _ _ => trivial) (fun i x' σ H3 H4 hi p y => ?_) (fun σ H3 p => ?_)
    · obtain ⟨p0, rfl, rfl⟩ := p
      obtain ⟨rfl, rfl⟩ := y
      refine ⟨_, rfl, _, rfl, _, i, congrArg V.int (Int.zero_add _), sq_list (.inl (.inl hM)), _, rfl, ite_f ?_ ⟨_, rfl, rfl⟩⟩
      have := hG.all i (by omega)
      simp [this]
    · obtain ⟨p0, rfl, rfl⟩ := p
      have hx2 := s12 _ _ hx
      have hB0 : (del H x) x = none := del_at H x
      have sB2 : Same (del H x) H3 := (del_same H x).trans s12
      have hSB : Sq K (del H x) (.ref aa) xs := sq_del hx hS
      have hrB : ∀ (i : Nat) (y : V) (r : List Nat), xs[i]? = some y → R[i]? = some r → Sq K (del H x) y (nV r) := fun i y r h1 h2 => sq_del hx (hrow i y r h1 h2)
      have hkB : Sq K (del H x) b (k.map V.bl) := sq_del hx hk
      refine ⟨_, rfl, _, rfl, x, T.C_Machine, dx, [], rfl, hx2, T.cl_Machine, T.n_Machine_own_letters, by decide, ?_⟩
      have sB4 : Same (del H x) (upd H3 x (.ins T.C_Machine dx (putF "own_letters" (tx sg) []))) := same_up sB2 hB0
      refine ⟨_, rfl, xs, del H x, hSB, sB4, fun J G wk hGG D nD => ?_⟩
      have hBD : (del H x) D = none := sB4.free nD
      refine lc_data (K := K) wk (R.map fun r => .tuple (dN r)) (by rw [List.length_map, hlen]) (sz (by have := hG.few; omega)) nD (fun H' s' => hGG H' (sB4.trans s')) (fun i y Hh H' acc d C hi sm hD yy hd c => ?_) gName_mono (fun H5 xs' s5 hD5 hA => ?_)
      · obtain ⟨rfl, hy⟩ := yy
        rw [List.getElem?_map] at hd
        obtain ⟨r, hr1, rfl⟩ := Option.map_eq_some_iff.mp hd
        obtain ⟨pa, rfl, hp⟩ := hrB i y r hy hr1
        have sBh := sB4.trans sm
        refine ⟨rfl, ⟨_, rfl, pa, nV r, rfl, ?_⟩⟩
        rcases hp with hp | hp
        · refine .inl ⟨sq_same hp sBh, fun l nl => c _ _ (same_upd nl) (.tup (.inl (.inl ?_)) (dpAll_nV r))⟩
          rw [del_ne (fun e => by rw [e, hD] at nl; cases nl), upd_same]
        · exact .inr ⟨sqT_same hp sBh, c _ _ (Same.refl _) (.tup (sqT_same hp (same_del sBh hBD)) (dpAll_nV r))⟩
      · have hx5 := s5 _ _ (upd_same (H := H3) (a := x))
        have nDx : x ≠ D := fun e => by rw [← e, upd_same] at nD; cases nD
        refine ⟨D, xs', rfl, .inl ⟨.inl (.inl hD5), fun r nr => ?_⟩⟩
        have nrx : x ≠ r := fun e => by rw [← e, hx5] at nr; cases nr
        have hx6 : upd H5 r (.tup xs') x = some (.ins T.C_Machine dx (putF "own_letters" (tx sg) [])) := by rw [upd_ne nrx]; exact hx5
        refine ⟨_, rfl, x, T.C_Machine, dx, _, rfl, hx6, T.cl_Machine, T.n_Machine_own_rows, putF_lt (n := 0) (Nat.zero_le _) (by decide), ?_⟩
        have sB5 := sB4.trans s5
        have hBr : (del H x) r = none := sB5.free nr
        have sB6 : Same (del H x) (upd (upd H5 r (.tup xs')) x (.ins T.C_Machine dx (putF "own_rows" (.ref r) (putF "own_letters" (tx sg) [])))) := same_up (same_up sB5 hBr) hB0
        have hA2 : DpAll K (del (del H5 D) x) xs' (R.map fun r => .tuple (dN r)) := dpAll_del (by rw [del_ne nDx]; exact hx5) hA
        have sA : ∀ H7, Same (upd (del (del H5 D) x) r (.tup xs')) H7 → Dp K H7 (.ref r) (dTR R) := fun H7 s7 => .tup (.inl (.inl (s7 _ _ upd_same))) (DpAll.same ((same_upd (by
          rw [del_ne nrx.symm]; unfold del; split <;> first | rfl | exact nr)).trans s7) hA2)
        have s66 : Same (upd (del (del H5 D) x) r (.tup xs')) (upd (upd H5 r (.tup xs')) x (.ins T.C_Machine dx (putF "own_rows" (.ref r) (putF "own_letters" (tx sg) [])))) := fun bb o e => by
          have nbx : bb ≠ x := fun z => by
            rw [z, upd_ne nrx, del_at] at e; cases e
          rw [upd_ne nbx]
          by_cases hbr : bb = r
          · rw [hbr, upd_same] at e ⊢; exact e
          · rw [upd_ne hbr, del_ne nbx] at e
            rw [upd_ne hbr]
            exact del_same _ _ _ _ e
        have fin : ∀ (H7 : Hp) (qq : Addr), Same (upd (upd H5 r (.tup xs')) x (.ins T.C_Machine dx (putF "own_rows" (.ref r) (putF "own_letters" (tx sg) [])))) H7 → SqT K (del H7 x) qq (k.map V.bl) → Q .non (upd H7 x (.ins T.C_Machine dx (putF "own_kinds" (.ref qq) (putF "own_rows" (.ref r) (putF "own_letters" (tx sg) []))))) := fun H7 qq s7 hq => by
          have hx7 := s7 _ _ (upd_same (a := x))
          have sd : Same (del H7 x) (upd H7 x (.ins T.C_Machine dx (putF "own_kinds" (.ref qq) (putF "own_rows" (.ref r) (putF "own_letters" (tx sg) []))))) := same_up (del_same _ _) (del_at _ _)
          refine q _ (fun bb o e nb => ?_) ⟨⟨dx, r, qq, upd_same, ?_, sqT_same hq sd⟩, hl, hG⟩
          · rw [upd_ne nb]
            exact s7 _ _ (sB6 _ _ (by rw [del_ne nb]; exact e))
          · exact Dp.same sd (dp_del hx7 (sA _ (s66.trans s7)))
        obtain ⟨bb, rfl, hkk⟩ := id hkB
        refine ⟨_, rfl, bb, k.map V.bl, rfl, ?_⟩
        rcases hkk with hkk | hkk
        · refine .inl ⟨sq_same hkk sB6, fun qq nq => ?_⟩
          have nqx : x ≠ qq := fun e => by rw [← e, upd_same] at nq; cases nq
          refine ⟨_, rfl, x, T.C_Machine, dx, _, rfl, by rw [upd_ne nqx, upd_same], T.cl_Machine, T.n_Machine_own_kinds, putF_lt (n := 1) (putF_len _ _ _) (by decide), ?_⟩
          exact fin _ qq (same_upd nq) (.inl (.inl (by rw [del_ne nqx.symm, upd_same])))
        · refine .inr ⟨sqT_same hkk sB6, ?_⟩
          refine ⟨_, rfl, x, T.C_Machine, dx, _, rfl, upd_same, T.cl_Machine, T.n_Machine_own_kinds, putF_lt (n := 1) (putF_len _ _ _) (by decide), ?_⟩
          exact fin _ bb (Same.refl _) (sqT_same hkk (same_del sB6 hB0))
end
end Lw
namespace Lw
open PySem PySem.Spec PyProof.Rows L3
open L2 hiding del del_same del_ne
theorem Same.ne {H H' : Hp} {a b : Addr} {o : HO} (h : H a = some o) (hb : H b = none) : a ≠ b := ne_of_none h hb
theorem nV_snoc (l : List Nat) (n : Nat) : nV (l ++ [n]) = nV l ++ [.int (n : Int)] := by unfold nV; rw [List.map_append]; rfl
theorem kAt_get {k : List Bool} {p : Nat} (h : p < k.length) : (k.map V.bl)[p]? = some (.bl (M14.kAt k p)) := by
  rw [List.getElem?_map, List.getElem?_eq_getElem h]
  unfold M14.kAt
  rw [List.getD_eq_getElem?_getD, List.getElem?_eq_getElem h]
  rfl
end Lw
namespace Lw
open PySem PySem.Spec PyProof.Rows L3
open L2 hiding del del_same del_ne
def isTyV : Value → Bool
  | .type _ => true
  | _ => false
def plainTy (ty : String) : Bool := match PySem.fastBuiltinMro ty with
  | some l => l.all isTyV
  | none => false
theorem sub_plain {K : PySem.W.Frag} {C : Addr} {ty : String} (h : plainTy ty = true) : PySem.W.subIn K (.type ty) (.ref C) = some false := by
  unfold plainTy at h
  show (PySem.fastBuiltinMro ty).map (·.contains (.ref C)) = some false
  cases e : PySem.fastBuiltinMro ty with
  | none => rw [e] at h; cases h
  | some l =>
    rw [e] at h
    simp only [Option.map_some, Option.some.injEq]
    rw [← Bool.not_eq_true, List.contains_iff_mem]
    intro hm
    have := List.all_eq_true.mp h _ hm
    cases this
theorem first_own {K : PySem.W.Frag} {C : Addr} : PySem.W.notFirst K C (.ref C) = true := by
  unfold PySem.W.notFirst
  simp
theorem Rw.sq {K : PySem.W.Frag} {H : Hp} {v : V} {R : List (List Nat)} (h : Rw K H v R) : ∃ xs, Sq K H v xs ∧ xs.length = R.length := by
  obtain ⟨xs, a, b, _⟩ := h
  exact ⟨xs, a, b⟩
section
variable {P : Program} {w : World} {K : PySem.W.Frag} {mg : Str → Option Value} {base : Heap}
def spLetters (K : PySem.W.Frag) (C : Addr) : Sp := fun vs H Q _ => ∃ a sg R k, vs = [.ref a] ∧ Mach C K H a sg R k ∧ Q (tx sg) H
theorem ok_Machine_letters (T : All K mg) : FnOk P w K mg base CX0 1 T.f_Machine_letters T.d_Machine_letters ["self"] (spLetters K T.C_Machine) := by
  refine T.Machine_letters.F.ok sc_Machine_letters (fun vs H Q E h => ?_) (fun cdv A outer s H vs Q E hr h => ?_)
  · obtain ⟨a, sg, R, k, rfl, _⟩ := h
    rfl
  · obtain ⟨a, sg, R, k, rfl, hM, q⟩ := h
    obtain ⟨dx, r, qq, hat, hr1, hk1⟩ := hM.at_
    refine ⟨_, pss_one (ps_ret (pe_fld (pv 0) rfl)), ?_⟩
    exact ⟨_, rfl, a, T.C_Machine, dx, _, _, rfl, hat, T.cl_Machine, T.n_Machine_own_letters, rfl, q⟩
def spLen (K : PySem.W.Frag) (C : Addr) : Sp := fun vs H Q _ => ∃ a sg R k, vs = [.ref a] ∧ Mach C K H a sg R k ∧ Q (.int (R.length : Int)) H
theorem ok_Machine_len (T : All K mg) : FnOk P w K mg base CX0 1 T.f_Machine_len T.d_Machine_len ["self"] (spLen K T.C_Machine) := by
  refine T.Machine_len.F.ok sc_Machine_len (fun vs H Q E h => ?_) (fun cdv A outer s H vs Q E hr h => ?_)
  · obtain ⟨a, sg, R, k, rfl, _⟩ := h
    rfl
  · obtain ⟨a, sg, R, k, rfl, hM, q⟩ := h
    obtain ⟨dx, r, qq, hat, hr1, hk1⟩ := hM.at_
    obtain ⟨xs, hS, hl⟩ := (rw_dTR hr1).sq
    obtain ⟨r', e, hS'⟩ := hS
    cases e
    refine ⟨_, pss_one (ps_ret (pe_callB call_len_seq (by rfl) T.b_len PySem.boot_len (pa_cons (pe_fld (pv 0) rfl) pa_nil))), ?_⟩
    refine ⟨_, rfl, a, T.C_Machine, dx, _, _, rfl, hat, T.cl_Machine, T.n_Machine_own_rows, rfl, r, xs, rfl, hS', ?_⟩
    rw [hl]
    exact q
def spKinds (K : PySem.W.Frag) (C : Addr) : Sp := fun vs H Q _ => ∃ a sg R k, vs = [.ref a] ∧ Mach C K H a sg R k ∧ ∀ p, H p = none → Q (.ref p) (upd H p (.lst (k.map V.bl)))
theorem ok_Machine_kinds (T : All K mg) : FnOk P w K mg base CX0 1 T.f_Machine_kinds T.d_Machine_kinds ["self"] (spKinds K T.C_Machine) := by
  refine T.Machine_kinds.F.ok sc_Machine_kinds (fun vs H Q E h => ?_) (fun cdv A outer s H vs Q E hr h => ?_)
  · obtain ⟨a, sg, R, k, rfl, _⟩ := h
    rfl
  · obtain ⟨a, sg, R, k, rfl, hM, q⟩ := h
    obtain ⟨dx, r, qq, hat, hr1, hk1⟩ := hM.at_
    refine ⟨_, pss_one (ps_ret (pe_callTy call_list_of (by rfl) T.b_list PyProof.Rows.boot_list (pa_cons (pe_fld (pv 0) rfl) pa_nil))), ?_⟩
    exact ⟨_, rfl, a, T.C_Machine, dx, _, _, rfl, hat, T.cl_Machine, T.n_Machine_own_kinds, rfl, qq, _, rfl, .inr hk1, q⟩
/-- a new list of new lists -/
def NewRows (H H' : Hp) (p : Addr) (R : List (List Nat)) : Prop := ∃ xs, H' p = some (.lst xs) ∧ xs.length = R.length ∧ ∀ (i : Nat) (x : V), xs[i]? = some x → ∃ q, x = .ref q ∧ H q = none ∧ q ≠ p ∧ H' q = some (.lst (nV (M14.row R i)))
theorem NewRows.dp {K : PySem.W.Frag} {H H' : Hp} {p : Addr} {R : List (List Nat)} (h : NewRows H H' p R) : Dp K H' (.ref p) (dLR R) := by
  obtain ⟨xs, hp, hl, hx⟩ := h
  refine .lst (.inl (.inl hp)) (dpAll_of (by rw [List.length_map]; exact hl) fun i x d h1 h2 => ?_)
  obtain ⟨q, rfl, _, _, hq⟩ := hx i x h1
  rw [List.getElem?_map] at h2
  obtain ⟨r, hr, rfl⟩ := Option.map_eq_some_iff.mp h2
  rw [M14.row_get hr] at hq
  exact .lst (.inl (.inl hq)) (dpAll_nV r)
def spRows (K : PySem.W.Frag) (C : Addr) : Sp := fun vs H Q _ => ∃ a sg R k, vs = [.ref a] ∧ Mach C K H a sg R k ∧ ∀ H' p, Same H H' → H p = none → NewRows H H' p R → Q (.ref p) H'
theorem ok_Machine_rows (T : All K mg) : FnOk P w K mg base CX0 1 T.f_Machine_rows T.d_Machine_rows ["self"] (spRows K T.C_Machine) := by
  refine T.Machine_rows.F.ok sc_Machine_rows (fun vs H Q E h => ?_) (fun cdv A outer s H vs Q E hr h => ?_)
  · obtain ⟨a, sg, R, k, rfl, _⟩ := h
    rfl
  · obtain ⟨a, sg, R, k, rfl, hM, q⟩ := h
    obtain ⟨dx, r, qq, hat, hr1, hk1⟩ := hM.at_
    have hfew := hM.good.few
    obtain ⟨xs, hS, hl, hrow⟩ := rw_dTR hr1
    obtain ⟨_, _, e', hST, _⟩ := dp_tuple hr1
    cases e'
    obtain ⟨ra, ys, e2, hST, hAll⟩ := dp_tuple hr1
    cases e2
    have hyl : ys.length = R.length := by rw [dpAll_len hAll, List.length_map]
    refine ⟨_, pss_one (ps_ret (pe_lc (own := [("row", 1)]) (g := gName 1) (tt := tYes) rfl sc_Machine_rows.nd (pi_tup (pe_fld (pv 0) rfl))
          (blkOk_by (own := [("row", 1)]) (N := ["self", "row"]) (sc := defScope s_Machine_rows) (by decide +kernel))
          (fun _ _ _ _ _ => pg_name (i := 1) sc_Machine_rows.nd rfl (by first | exact Or.inl rfl | exact Or.inr rfl)) (fun _ _ _ _ _ => pts_nil)
          (fun _ _ _ _ _ => (pe_callTy (call_list_ofK (K := K) rfl) (by rfl) T.b_list PyProof.Rows.boot_list (pa_cons (pv 1) pa_nil))))), ?_⟩
    refine ⟨_, rfl, a, T.C_Machine, dx, _, _, rfl, hat, T.cl_Machine, T.n_Machine_own_rows, rfl, r, rfl, ⟨_, hST⟩, fun D nD => ?_⟩
    refine lc_dp (walk_tup (xs := ys)) (fun i acc H' => Same H H' ∧ acc.length = i ∧ ∀ (j : Nat) (x : V), acc[j]? = some x → ∃ q, x = .ref q ∧ H q = none ∧ q ≠ D ∧ H' q = some (.lst (nV (M14.row R j)))) (sz (by omega)) (fun i acc H' p => Nat.le_of_eq p.2.1) nD ⟨Same.refl _, rfl, fun j x e => by simp at e⟩ (fun i acc H' p _ => sqT_same hST (p.1.trans (del_same _ _))) (fun i y Hh H' acc C N hi p hD yy c n => ?_) (fun H5 xs' hD5 p => ?_)
    · obtain ⟨rfl, hy⟩ := yy
      obtain ⟨sm, hlen, hacc⟩ := p
      obtain ⟨d, hd, hdp⟩ := dpAll_back hAll hy
      rw [List.getElem?_map] at hd
      obtain ⟨rr, hr2, rfl⟩ := Option.map_eq_some_iff.mp hd
      obtain ⟨pa, zs, rfl, hS2, hA2⟩ := dp_tuple hdp
      rw [dpAll_nats hA2] at hS2
      have sH := sm.trans (del_same _ _)
      refine ⟨rfl, yes_te ⟨_, rfl, pa, nV rr, rfl, .inr (sqT_same hS2 sH), fun l nl => ?_⟩⟩
      have nlD : l ≠ D := fun e => by rw [e, hD] at nl; cases nl
      refine c _ _ (by rw [upd_ne nlD.symm]; exact hD) ⟨same_del (same_up sH (sH.free nl)) nD, by rw [List.length_append, hlen]; rfl, fun j x e => ?_⟩
      by_cases hj : j < acc.length
      · rw [List.getElem?_append_left hj] at e
        obtain ⟨q1, e1, n1, n2, e2⟩ := hacc j x e
        refine ⟨q1, e1, n1, n2, ?_⟩
        rw [del_ne n2] at e2
        rw [del_ne n2, upd_ne (ne_of_none e2 nl)]
        exact e2
      · have hj2 : j = i := by
          have := (List.getElem?_eq_some_iff.mp e).1
          rw [List.length_append, List.length_singleton] at this
          omega
        subst hj2
        rw [List.getElem?_append_right (by omega), hlen, Nat.sub_self] at e
        cases e
        exact ⟨l, rfl, sH.free nl, nlD, by rw [del_ne nlD, upd_same, M14.row_get hr2]⟩
    · obtain ⟨sm, hlen, hacc⟩ := p
      refine q _ D (sm.trans (del_same _ _)) nD ⟨xs', hD5, by rw [hlen, hyl], fun i x e => ?_⟩
      obtain ⟨q1, e1, n1, n2, e2⟩ := hacc i x e
      exact ⟨q1, e1, n1, n2, del_same _ _ _ _ e2⟩
theorem all_in {sg t : List Nat} (h : ∀ c ∈ t, c ∈ sg) : (t.all fun c => decide (c ∈ sg)) = true := by
  rw [List.all_eq_true]; exact fun c hc => decide_eq_true (h c hc)
def spWantText : Sp := fun vs H Q _ => ∃ sg t, vs = [tx sg, tx t] ∧ t.length ≤ 1000 ∧ (∀ c ∈ t, c ∈ sg) ∧ ∀ H', Same H H' → Q .non H'
theorem ok_want_text (T : All K mg) : FnOk P w K mg base CX0 2 T.f_want_text T.d_want_text ["letters", "text"] spWantText := by
  refine T.want_text.F.ok sc_want_text (fun vs H Q E h => ?_) (fun cdv A outer s H vs Q E hr h => ?_)
  · obtain ⟨sg, t, rfl, _⟩ := h
    rfl
  · obtain ⟨sg, t, rfl, hz, ht, q⟩ := h
    refine ⟨_, pss_one (ps_if (pt_not (pt_val (pe_call (ok_is_text_over T) (hr.mono (by decide)) (by rfl) T.is_text_over.g T.is_text_over.F.kp T.is_text_over.b .nil pass0 (pa_cons (pv 0) (pa_cons (pv 1) pa_nil))))) (pss_one ps_never) pss_nil), ?_⟩
    refine ⟨_, rfl, _, rfl, sg, tx t, rfl, .inl ⟨t, rfl, hz, fun H1 s1 => ⟨true, ?_, iteF (q _ s1)⟩⟩⟩
    rw [all_in ht]
def spLed (K : PySem.W.Frag) (C : Addr) : Sp := fun vs H Q _ => ∃ (a : Addr) (p : Nat) (t sg : List Nat) (R : List (List Nat)) (k : List Bool), vs = [.ref a, .int (p : Int), tx t] ∧ Mach C K H a sg R k ∧ p < R.length ∧ (∀ c ∈ t, c ∈ sg) ∧ Q (.int ((M14.led sg R p t : Nat) : Int)) H
theorem ok_led (T : All K mg) : FnOk P w K mg base CX0 1 T.f_led T.d_led ["machine", "place", "text"] (spLed K T.C_Machine) := by
  refine T.led.F.ok sc_led (fun vs H Q E h => ?_) (fun cdv A outer s H vs Q E hr h => ?_)
  · obtain ⟨a, p, t, sg, R, k, rfl, _⟩ := h
    rfl
  · obtain ⟨a, p, t, sg, R, k, rfl, hM, hp, ht, q⟩ := h
    obtain ⟨dx, r, qq, hat, hr1, hk1⟩ := hM.at_
    obtain ⟨ra, ys, e2, hST, hAll⟩ := dp_tuple hr1
    cases e2
    refine ⟨_, pss_cons (ps_set (i := 3) sc_led.nd rfl (by first | exact Or.inl rfl | exact Or.inr rfl) (pv 1))
      (pss_cons (ps_for PassesOwn.never rfl (pi_str (pv 2)) (pg_name (i := 4) sc_led.nd rfl (by first | exact Or.inl rfl | exact Or.inr rfl))
        (pss_one (ps_set (i := 3) sc_led.nd rfl (by first | exact Or.inl rfl | exact Or.inr rfl) (pe_ix ix_tup (pe_ix ix_tup (pe_fld (pv 0) rfl) (pv 3) (fun _ _ => rfl)) (pe_bm PySem.F.plainAttrs_str PySem.F.slot_str_index PySem.F.type_str_index mt_indexT (pe_fld (pv 0) rfl) (pa_cons (pv 4) pa_nil)) (fun _ _ => rfl)))))
      (pss_one (ps_ret (pv 3)))), ?_⟩
    refine ⟨_, rfl, _, rfl, tS t, rfl, for_it walk_tx (fun i σ H' => ∃ c, σ = [some (.ref a), some (.int (p : Int)), some (tx t), some (.int ((M14.led sg R p (t.take i) : Nat) : Int)), c] ∧ H' = H) ⟨none, rfl, rfl⟩ (fun _ _ _ _ _ => trivial) (fun i x σ H1 H2 hi pp y => ?_) (fun σ H' pp => ?_)⟩
    · obtain ⟨c0, rfl, rfl⟩ := pp
      obtain ⟨rfl, c, hc, rfl⟩ := y
      have hcs := ht c (List.mem_of_getElem? hc)
      have hlt : M14.led sg R p (t.take i) < R.length := M14.led_lt hM.good.toSht hp fun x hx => ht x (List.mem_of_mem_take hx)
      obtain ⟨g, hg, hgl, hgd⟩ := M14.led_step hM.good.toSht hlt hcs
      obtain ⟨y, hy, hdy⟩ := dpAll_get hAll (i := M14.led sg R p (t.take i)) (d := .tuple (dN (M14.row R (M14.led sg R p (t.take i))))) (by rw [List.getElem?_map, M14.row_at hlt]; rfl)
      obtain ⟨ya, zs, rfl, hSy, hAy⟩ := dp_tuple hdy
      rw [dpAll_nats hAy] at hSy
      refine ⟨_, rfl, a, T.C_Machine, dx, _, _, rfl, hat, T.cl_Machine, T.n_Machine_own_rows, rfl, _, rfl, r, ys, _, _, rfl, rfl, hST, atI_nat hy, ?_⟩
      refine ⟨_, rfl, a, T.C_Machine, dx, _, _, rfl, hat, T.cl_Machine, T.n_Machine_own_letters, rfl, rfl, _, rfl, sg, c, rfl, rfl, hcs, ?_⟩
      refine ⟨ya, _, _, _, rfl, rfl, hSy, atI_nat (nV_get hg), some (tx [c]), ?_, rfl⟩
      rw [List.take_add_one, hc]
      show _ = [_, _, _, some (V.int ((M14.led sg R p (t.take i ++ [c]) : Nat) : Int)), _]
      rw [M14.led_snoc, hgd]
      rfl
    · obtain ⟨c0, rfl, rfl⟩ := pp
      rw [List.take_length]
      exact ⟨_, rfl, q⟩
def spTaken (K : PySem.W.Frag) (C : Addr) : Sp := fun vs H Q _ => ∃ (a : Addr) (t sg : List Nat) (R : List (List Nat)) (k : List Bool), vs = [.ref a, tx t] ∧ Mach C K H a sg R k ∧ (∀ c ∈ t, c ∈ sg) ∧ Q (.bl (M14.kAt k (M14.led sg R 0 t))) H
theorem ok_is_taken (T : All K mg) : FnOk P w K mg base CX0 2 T.f_is_taken T.d_is_taken ["machine", "text"] (spTaken K T.C_Machine) := by
  refine T.is_taken.F.ok sc_is_taken (fun vs H Q E h => ?_) (fun cdv A outer s H vs Q E hr h => ?_)
  · obtain ⟨a, t, sg, R, k, rfl, _⟩ := h
    rfl
  · obtain ⟨a, t, sg, R, k, rfl, hM, ht, q⟩ := h
    obtain ⟨dx, r, qq, hat, hr1, hk1⟩ := hM.at_
    refine ⟨_, pss_one (ps_ret (pe_ix ix_tup (pe_fld (pv 0) rfl) (pe_call (ok_led T) (hr.mono (by decide)) (by rfl) T.led.g T.led.F.kp T.led.b .nil pass0 (pa_cons (pv 0) (pa_cons pe_int (pa_cons (pv 1) pa_nil)))) (fun _ _ => rfl))), ?_⟩
    refine ⟨_, rfl, a, T.C_Machine, dx, _, _, rfl, hat, T.cl_Machine, T.n_Machine_own_kinds, rfl, _, rfl, _, rfl, a, 0, t, sg, R, k, rfl, hM, hM.good.ne, ht, ?_⟩
    refine ⟨qq, _, _, _, rfl, rfl, hk1, atI_nat (kAt_get ?_), q⟩
    rw [hM.good.kin]
    exact M14.led_lt hM.good.toSht hM.good.ne ht
end
end Lw
namespace Lw
open PySem PySem.Spec PyProof.Rows L3
open L2 hiding del del_same del_ne
open L2 hiding del del_same del_ne
theorem shownLen {d : PyData} {w k : Nat} (h : Wt d w k) : d.shown.length ≤ 12 * w + 10 := by
  have h1 := PyData.shown_le 10 (by decide) d h.l
  have h2 := h.w
  have h3 : (10 + 2) * d.weight ≤ 12 * w := Nat.mul_le_mul_left 12 h2
  omega
theorem wt_dLR {n : Nat} {R : List (List Nat)} {k : List Bool} (h : M14.Sht n R k) (hn : n ≤ 3) : Wt (dLR R) 3760 2 := by
  refine (Wt.list (w := 93) (k := 1) (n := 40) (fun d hd => ?_) (by rw [List.length_map]; exact h.few)).mono (by decide) (by decide)
  obtain ⟨r, hr, rfl⟩ := List.mem_map.mp hd
  obtain ⟨i, hi⟩ := List.mem_iff_getElem?.mp hr
  have hlt := (List.getElem?_eq_some_iff.mp hi).1
  refine Wt.nats (n := 3) (fun c hc => ?_) (by rw [h.len r hr]; exact hn)
  have := h.val i hlt c (by rw [M14.row_get hi]; exact hc)
  have := h.few
  omega
theorem wt_dTR {n : Nat} {R : List (List Nat)} {k : List Bool} (h : M14.Sht n R k) (hn : n ≤ 3) : Wt (dTR R) 3760 2 := by
  refine (Wt.tuple (w := 93) (k := 1) (n := 40) (fun d hd => ?_) (by rw [List.length_map]; exact h.few)).mono (by decide) (by decide)
  obtain ⟨r, hr, rfl⟩ := List.mem_map.mp hd
  obtain ⟨i, hi⟩ := List.mem_iff_getElem?.mp hr
  have hlt := (List.getElem?_eq_some_iff.mp hi).1
  refine Wt.natsT (n := 3) (fun c hc => ?_) (by rw [h.len r hr]; exact hn)
  have := h.val i hlt c (by rw [M14.row_get hi]; exact hc)
  have := h.few
  omega
theorem wt_sg {sg : List Nat} (h : Lets sg) : Wt (.str (tS sg)) 3 0 := Wt.text (fun c hc => by have := h.az c hc; omega) h.few
theorem wt_kinds {n : Nat} {R : List (List Nat)} {k : List Bool} (h : M14.Sht n R k) : Wt (.list (dB k)) 40 1 := Wt.bools (by rw [h.kin]; exact h.few)
theorem wt_kindsT {n : Nat} {R : List (List Nat)} {k : List Bool} (h : M14.Sht n R k) : Wt (.tuple (dB k)) 40 1 := Wt.boolsT (by rw [h.kin]; exact h.few)
/-- how a machine is shown -/
def spk (sg : List Nat) (R : List (List Nat)) (k : List Bool) : Str :=
  ((((("Machine(" : Str) ++ reprText (tS sg)) ++ (", " : Str)) ++ (dLR R).shown) ++ (", " : Str)) ++ (PyData.list (dB k)).shown ++ (")" : Str)
theorem eqv_rows (R S : List (List Nat)) : PyData.eqv (dTR R) (dTR S) = decide (R = S) := by
  show PyData.eqvAll _ _ = _
  exact eqv_map (fun r => PyData.tuple (dN r)) (fun a b => by show PyData.eqvAll _ _ = _; exact eqv_dN a b) R S
theorem dp_bools {K : PySem.W.Frag} {H : Hp} : ∀ k : List Bool, DpAll K H (k.map V.bl) (dB k)
  | [] => .nil
  | b :: k => .cons (.bl b) (dp_bools k)
section
variable {P : Program} {w : World} {K : PySem.W.Frag} {mg : Str → Option Value} {base : Heap}
theorem ty_mach (T : All K mg) {H : Hp} {a : Addr} {sg : List Nat} {R : List (List Nat)} {k : List Bool} (h : Mach T.C_Machine K H a sg R k) : TyX K H (.ref a) (.ref T.C_Machine) := by
  obtain ⟨dx, r, qq, hat, _⟩ := h.at_
  exact .base (.ins hat T.cl_Machine T.ca_Machine T.cg_Machine T.ct_Machine (mro_obj T.mk_Machine))
theorem kit_own (T : All K mg) : PySem.W.kitOne K (.ref T.C_Machine) (.ref T.C_Machine) = some true := if_pos (beq_self_eq_true _)
theorem kit_plain (T : All K mg) {ty : String} (h : plainTy ty = true) : PySem.W.kitOne K (.type ty) (.ref T.C_Machine) = some false := by
  unfold PySem.W.kitOne
  rw [if_neg (by simp)]
  unfold PySem.W.kitCls
  obtain ⟨cd, hc, _⟩ := PySem.W.any_some T.cl_Machine.hd
  have e : ((PySem.W.clsIn K T.C_Machine).isSome && PySem.W.typeIn K (.ref T.C_Machine) == some (.type "type")) = true := by
    rw [hc, T.tt_Machine]
    simp
  simp only []
  rw [if_pos e]
  exact sub_plain h
def spEqM (K : PySem.W.Frag) (C : Addr) : Sp := fun vs H Q _ => ∃ (a : Addr) (v : V) (sg : List Nat) (R : List (List Nat)) (k : List Bool), vs = [.ref a, v] ∧ Mach C K H a sg R k ∧
  ((∃ (b : Addr) (sg' : List Nat) (R' : List (List Nat)) (k' : List Bool), v = .ref b ∧ Mach C K H b sg' R' k' ∧ Q (.bl (decide (sg = sg') && (decide (R = R') && decide (k = k')))) H) ∨ ∃ ty, TyX K H v (.type ty) ∧ plainTy ty = true ∧ Q (.bl false) H)
theorem ok_Machine_eq (T : All K mg) : FnOk P w K mg base CX0 1 T.f_Machine_eq T.d_Machine_eq ["self", "other"] (spEqM K T.C_Machine) := by
  refine T.Machine_eq.F.ok sc_Machine_eq (fun vs H Q E h => ?_) (fun cdv A outer s H vs Q E hr h => ?_)
  · obtain ⟨a, v, sg, R, k, rfl, _⟩ := h
    rfl
  · obtain ⟨a, v, sg, R, k, rfl, hM, hh⟩ := h
    obtain ⟨dx, r, qq, hat, hr1, hk1⟩ := hM.at_
    refine ⟨_, pss_cons (ps_if (PW.pt (pw_or (pt_not (pt_val (pe_callB call_isi (by rfl) T.b_isinstance boot_isinstance (pa_cons (pv 1) (pa_cons (pe_glob (v := .ref T.C_Machine) rfl T.g_Machine rfl) pa_nil))))) (pw_or1 (pt_cmpR op_ne (pe_fld (pv 0) rfl) (pe_fld (pv 1) rfl) (nomark _))))) (pss_one (ps_ret pe_bl)) pss_nil)
      (pss_one (ps_ret (pe_and (pe_cmpR (op_eqD (u64 hr)) (pe_fld (pv 0) rfl) (pe_fld (pv 1) rfl) (by rfl))
        (pe_one (pe_cmpR (op_eqD (u64 hr)) (pe_fld (pv 0) rfl) (pe_fld (pv 1) rfl) (by rfl)))))), ?_⟩
    rcases hh with ⟨b, sg', R', k', rfl, hM', q⟩ | ⟨ty, hty, hp, q⟩
    · obtain ⟨dx', r', qq', hat', hr1', hk1'⟩ := hM'.at_
      refine ⟨_, rfl, _, .ref T.C_Machine, .ref T.C_Machine, .ref T.C_Machine, true, rfl, .own _, ty_mach T hM', kit_own T, true, rfl, iteF ?_⟩
      refine ⟨_, rfl, a, T.C_Machine, dx, _, _, rfl, hat, T.cl_Machine, T.n_Machine_own_letters, rfl, _, rfl, b, T.C_Machine, dx', _, _, rfl, hat', T.cl_Machine, T.n_Machine_own_letters, rfl, rfl, _, rfl, ?_⟩
      rw [tx_dec]
      by_cases e1 : sg = sg'
      · refine ite_f (by simp [e1]) ?_
        refine ⟨_, rfl, a, T.C_Machine, dx, _, _, rfl, hat, T.cl_Machine, T.n_Machine_own_rows, rfl, _, rfl, b, T.C_Machine, dx', _, _, rfl, hat', T.cl_Machine, T.n_Machine_own_rows, rfl, _, _, hr1, hr1', (wt_dTR hM.good.toSht hM.lets.few).shaped (by decide), (wt_dTR hM'.good.toSht hM'.lets.few).shaped (by decide), _, rfl, ?_⟩
        rw [eqv_rows]
        rw [decide_eq_true e1, Bool.true_and] at q
        by_cases e2 : R = R'
        · refine ite_t (decide_eq_true e2) ?_
          refine ⟨_, rfl, a, T.C_Machine, dx, _, _, rfl, hat, T.cl_Machine, T.n_Machine_own_kinds, rfl, _, rfl, b, T.C_Machine, dx', _, _, rfl, hat', T.cl_Machine, T.n_Machine_own_kinds, rfl, .tuple (dB k), .tuple (dB k'), .tup hk1 (dp_bools k), .tup hk1' (dp_bools k'), (wt_kindsT hM.good.toSht).shaped (by decide), (wt_kindsT hM'.good.toSht).shaped (by decide), ?_⟩
          rw [decide_eq_true e2, Bool.true_and] at q
          have e : PyData.eqv (.tuple (dB k)) (.tuple (dB k')) = decide (k = k') := by show PyData.eqvAll _ _ = _; exact eqv_dB k k'
          rw [e]
          exact q
        · refine ite_f (decide_eq_false e2) ?_
          rw [decide_eq_false e2, Bool.false_and] at q
          exact q
      · refine ite_t (by simp [e1]) ?_
        rw [decide_eq_false e1, Bool.false_and] at q
        exact q
    · refine ⟨_, rfl, v, .ref T.C_Machine, .type ty, .ref T.C_Machine, false, rfl, .own _, hty, kit_plain T hp, false, rfl, iteT q⟩
def spRepr (K : PySem.W.Frag) (C : Addr) : Sp := fun vs H Q _ => ∃ (a : Addr) (sg : List Nat) (R : List (List Nat)) (k : List Bool), vs = [.ref a] ∧ Mach C K H a sg R k ∧ ∀ H', Same H H' → Q (.str (spk sg R k)) H'
theorem ok_Machine_repr (T : All K mg) : FnOkH P w K mg base CX0 2 T.f_Machine_repr T.d_Machine_repr ["self"] (spRepr K T.C_Machine) := by
  refine okH T.Machine_repr.F sc_Machine_repr (fun vs H Q E h => ?_) (fun cdv A outer s H vs Q E g hr hG hgo h => ?_)
  · obtain ⟨a, sg, R, k, rfl, _⟩ := h
    rfl
  · obtain ⟨a, sg, R, k, rfl, hM, q⟩ := h
    obtain ⟨dx, r, qq, hat, hr1, hk1⟩ := hM.at_
    have l1 : (reprText (tS sg)).length ≤ 46 := shownLen (wt_sg hM.lets)
    have l2 := shownLen (wt_dLR hM.good.toSht hM.lets.few)
    have l3 := shownLen (wt_kinds hM.good.toSht)
    have c1 : ("Machine(" : Str).length = 8 := by decide +kernel
    have c2 : (", " : Str).length = 2 := by decide +kernel
    have c3 : (")" : Str).length = 1 := by decide +kernel
    have c0 : Str.empty.length = 0 := rfl
    refine ⟨_, pss_one (ps_ret (pe_joined (PJ.cons pe_str (PJ.cons (pe_fmtR (pe_fld (pv 0) rfl)) (PJ.cons pe_str (PJ.cons (pe_fmtRH hr hG (pe_meth0 (pv 0) T.cl_Machine T.Machine_rows.m (ok_Machine_rows T) (hr.mono (by decide)) T.Machine_rows.b .nil pass0)) (PJ.cons pe_str (PJ.cons (pe_fmtRH hr hG (pe_meth0 (pv 0) T.cl_Machine T.Machine_kinds.m (ok_Machine_kinds T) (hr.mono (by decide)) T.Machine_kinds.b .nil pass0)) (PJ.cons pe_str PJ.nil))))))))), ?_⟩
    have z : ∀ n, n ≤ 100000 → n ≤ sizeLine := fun n h => sz h
    refine ⟨_, rfl, z _ (by rw [strLen_append]; omega), ?_⟩
    refine ⟨_, rfl, a, T.C_Machine, dx, _, _, rfl, hat, T.cl_Machine, T.n_Machine_own_letters, rfl, .inl ⟨_, rfl, z _ (by omega), _, rfl, z _ (by rw [strLen_append, strLen_append]; omega), ?_⟩⟩
    refine ⟨_, rfl, z _ (by rw [strLen_append, strLen_append, strLen_append]; omega), ?_⟩
    refine ⟨_, rfl, a, dx, _, rfl, hat, rfl, a, sg, R, k, rfl, hM, fun H1 p1 s1 n1 hnew => ?_⟩
    have sh1 := (wt_dLR hM.good.toSht hM.lets.few).shw (by decide) (by decide)
    have eR : ∃ e es, dLR R = .list (e :: es) := by
      have := hM.good.ne
      cases R with
      | nil => exact absurd this (by simp)
      | cons r0 R0 => exact ⟨_, _, rfl⟩
    refine ⟨p1, dLR R, rfl, hnew.dp, eR, hgo.same s1, sh1.s, sh1.z, sh1.p, _, rfl, z _ (by rw [strLen_append, strLen_append, strLen_append, strLen_append]; omega), ?_⟩
    refine ⟨_, rfl, z _ (by rw [strLen_append, strLen_append, strLen_append, strLen_append, strLen_append]; omega), ?_⟩
    refine ⟨_, rfl, a, dx, _, rfl, s1 _ _ hat, rfl, a, sg, R, k, rfl, hM.same s1, fun p2 n2 => ?_⟩
    have sh2 := (wt_kinds hM.good.toSht).shw (by decide) (by decide)
    have eK : ∃ e es, PyData.list (dB k) = .list (e :: es) := by
      have h1 := hM.good.kin
      have h2 := hM.good.ne
      cases k with
      | nil => rw [← h1] at h2; exact absurd h2 (by simp)
      | cons k0 kr => exact ⟨_, _, rfl⟩
    refine ⟨p2, .list (dB k), rfl, .lst (.inl (.inl upd_same)) (dp_bools k), eK, (hgo.same s1).same (same_upd n2), sh2.s, sh2.z, sh2.p, _, rfl, z _ (by rw [strLen_append, strLen_append, strLen_append, strLen_append, strLen_append, strLen_append]; omega), ?_⟩
    refine ⟨_, rfl, z _ (by rw [strLen_append, strLen_append, strLen_append, strLen_append, strLen_append, strLen_append, strLen_append]; omega), ?_⟩
    have := q _ (same_up (o := .lst (k.map V.bl)) s1 (s1.free n2))
    unfold spk at this
    rw [← Str.empty_append ("Machine(" : Str)] at this
    exact this
end
end Lw
namespace Lw
open PySem PySem.Spec PyProof.Rows L3
open L2 hiding del del_same del_ne
open L2 hiding del del_same del_ne
/-- all but lists stays -/
def NL (H H' : Hp) : Prop := ∀ p o, H p = some o → (∀ xs, o ≠ .lst xs) → H' p = some o
theorem NL.same {H H' : Hp} (s : Same H H') : NL H H' := fun p o e _ => s p o e
theorem NL.trans {H H1 H2 : Hp} (a : NL H H1) (b : NL H1 H2) : NL H H2 := fun p o e n => b p o (a p o e n) n
theorem NL.upd {H : Hp} {p : Addr} {xs : List V} {o : HO} (h : H p = some (.lst xs)) : NL H (L2.upd H p o) := fun b u e n => by
  rw [upd_ne (ne_of e h fun z => n xs z)]; exact e
theorem make_ok {K : PySem.W.Frag} {C : Addr} {H : Hp} {sg : List Nat} {a b : V} {R : List (List Nat)} {k : List Bool} (hl : Lets sg) (hR : Rw K H a R) (hk : Sq K H b (k.map V.bl)) (hG : M14.Good sg.length R k) {x dx : Addr} (nx : H x = none) (ndx : H dx = none) {Qh : Hp → Prop} (q : ∀ H', Same H H' → Mach C K H' x sg R k → Qh H') :
    spInit K C [.ref x, tx sg, a, b] (L2.upd (L2.upd H dx (.own x)) x (.ins C dx [])) (fun v H2 => v = .non ∧ Qh H2) E0 := by
  have sU : Same H (L2.upd (L2.upd H dx (.own x)) x (.ins C dx [])) := same_up (same_upd ndx) nx
  exact ⟨x, dx, sg, a, b, R, k, rfl, upd_same, hl, hR.same sU, hk.same sU, hG, fun H' hk' hM' => ⟨rfl, q H' (Same.made nx ndx hk') hM'⟩⟩
end Lw
namespace Lw
open PySem PySem.Spec PyProof.Rows L3
open L2 hiding del del_same del_ne
section
variable {P : Program} {w : World} {K : PySem.W.Frag} {mg : Str → Option Value} {base : Heap}
def spIsCount : Sp := fun vs H Q _ => ∃ n : Nat, vs = [.int (n : Int)] ∧ Q (.bl true) H
theorem ok_is_count (T : All K mg) : FnOk P w K mg base CX0 2 T.f_is_count T.d_is_count ["value"] spIsCount := by
  refine T.is_count.F.ok sc_is_count (fun vs H Q E h => ?_) (fun cdv A outer s H vs Q E hr h => ?_)
  · obtain ⟨n, rfl, _⟩ := h
    rfl
  · obtain ⟨n, rfl, q⟩ := h
    refine ⟨_, pss_one (ps_ret (pe_and (pe_call (ok_is_integer T) (hr.mono (by decide)) (by rfl) T.is_integer.g T.is_integer.F.kp T.is_integer.b .nil pass0 (pa_cons (pv 0) pa_nil))
        (pe_one (pe_cmpR op_ge (pv 0) pe_int (by rfl))))), ?_⟩
    refine ⟨_, rfl, _, rfl, true, rfl, iteT ⟨_, rfl, _, _, rfl, rfl, ?_⟩⟩
    have e : decide ((0 : Int) ≤ (n : Int)) = true := decide_eq_true (by omega)
    show Q (.bl (decide ((0 : Int) ≤ (n : Int)))) H
    rw [e]; exact q
/-- a new list of new lists, no two the same -/
def NewRows2 (H H' : Hp) (p : Addr) (R : List (List Nat)) : Prop := ∃ xs, H' p = some (.lst xs) ∧ xs.length = R.length ∧ xs.Nodup ∧ ∀ (i : Nat) (x : V), xs[i]? = some x → ∃ q, x = .ref q ∧ H q = none ∧ q ≠ p ∧ H' q = some (.lst (nV (M14.row R i)))
theorem NewRows2.one {H H' : Hp} {p : Addr} {R : List (List Nat)} (h : NewRows2 H H' p R) : NewRows H H' p R := by
  obtain ⟨xs, h1, h2, _, h3⟩ := h
  exact ⟨xs, h1, h2, h3⟩
theorem NewRows2.same {H H' H2 : Hp} {p : Addr} {R : List (List Nat)} (h : NewRows2 H H' p R) (s : Same H' H2) : NewRows2 H H2 p R := by
  obtain ⟨xs, hp, hl, hn, hx⟩ := h
  refine ⟨xs, s _ _ hp, hl, hn, fun i x e => ?_⟩
  obtain ⟨q, e1, n1, n2, e2⟩ := hx i x e
  exact ⟨q, e1, n1, n2, s _ _ e2⟩
theorem nV_set (l : List Nat) (a g : Nat) : (nV l).set a (.int (g : Int)) = nV (l.set a g) := by unfold nV; rw [List.map_set]
/-- one goal is changed -/
theorem NewRows2.put {H H' : Hp} {p : Addr} {R : List (List Nat)} (h : NewRows2 H H' p R) {s : Nat} (hs : s < R.length) : ∃ xs q, H' p = some (.lst xs) ∧ xs[s]? = some (.ref q) ∧ H' q = some (.lst (nV (M14.row R s))) ∧ H q = none ∧ q ≠ p ∧ ∀ a g, NewRows2 H (upd H' q (.lst (nV ((M14.row R s).set a g)))) p (M74.rd R s a g) := by
  obtain ⟨xs, hp, hl, hn, hx⟩ := h
  have hsx : s < xs.length := by omega
  obtain ⟨q, e1, n1, n2, e2⟩ := hx s _ (List.getElem?_eq_getElem hsx)
  have hq : xs[s]? = some (.ref q) := by rw [List.getElem?_eq_getElem hsx, e1]
  refine ⟨xs, q, hp, hq, e2, n1, n2, fun a g => ⟨xs, by rw [upd_ne n2.symm]; exact hp, by rw [M74.rd_len]; exact hl, hn, fun i x e => ?_⟩⟩
  by_cases hi : i = s
  · subst hi
    rw [hq] at e
    cases e
    exact ⟨q, rfl, n1, n2, by rw [upd_same, M74.rd_row hs]⟩
  · obtain ⟨q', f1, f2, f3, f4⟩ := hx i x e
    have hne : q' ≠ q := fun z => by
      subst f1
      subst z
      obtain ⟨hil, a1⟩ := List.getElem?_eq_some_iff.mp e
      obtain ⟨_, a2⟩ := List.getElem?_eq_some_iff.mp hq
      rcases Nat.lt_or_gt_of_ne hi with c | c
      · exact List.pairwise_iff_getElem.mp hn i s hil hsx c (a1.trans a2.symm)
      · exact List.pairwise_iff_getElem.mp hn s i hsx hil c (a2.trans a1.symm)
    exact ⟨q', f1, f2, f3, by rw [upd_ne hne, M74.rd_rest hi]; exact f4⟩
def spListsOf (K : PySem.W.Frag) : Sp := fun vs H Q _ => ∃ (r : Addr) (R : List (List Nat)), vs = [.ref r] ∧ Dp K H (.ref r) (dTR R) ∧ R.length ≤ 40 ∧ ∀ H' p, Same H H' → H p = none → NewRows2 H H' p R → Q (.ref p) H'
theorem ok_lists_of (T : All K mg) : FnOk P w K mg base CX0 1 T.f_lists_of T.d_lists_of ["rows"] (spListsOf K) := by
  refine T.lists_of.F.ok sc_lists_of (fun vs H Q E h => ?_) (fun cdv A outer s H vs Q E hr h => ?_)
  · obtain ⟨r, R, rfl, _⟩ := h
    rfl
  · obtain ⟨r, R, rfl, hr1, hfew, q⟩ := h
    obtain ⟨xs, hS, hl, hrow⟩ := rw_dTR hr1
    obtain ⟨_, _, e', hST, _⟩ := dp_tuple hr1
    cases e'
    obtain ⟨ra, ys, e2, hST, hAll⟩ := dp_tuple hr1
    cases e2
    have hyl : ys.length = R.length := by rw [dpAll_len hAll, List.length_map]
    refine ⟨_, pss_one (ps_ret (pe_lc (own := [("row", 1)]) (g := gName 1) (tt := tYes) rfl sc_lists_of.nd (pi_tup (pv 0))
          (blkOk_by (own := [("row", 1)]) (N := ["rows", "row"]) (sc := defScope s_lists_of) (by decide +kernel))
          (fun _ _ _ _ _ => pg_name (i := 1) sc_lists_of.nd rfl (by first | exact Or.inl rfl | exact Or.inr rfl)) (fun _ _ _ _ _ => pts_nil)
          (fun _ _ _ _ _ => (pe_callTy (call_list_ofK (K := K) rfl) (by rfl) T.b_list PyProof.Rows.boot_list (pa_cons (pv 1) pa_nil))))), ?_⟩
    refine ⟨_, rfl, r, rfl, ⟨_, hST⟩, fun D nD => ?_⟩
    refine lc_dp (walk_tup (xs := ys)) (fun i acc H' => Same H H' ∧ acc.length = i ∧ acc.Nodup ∧ ∀ (j : Nat) (x : V), acc[j]? = some x → ∃ q, x = .ref q ∧ H q = none ∧ q ≠ D ∧ H' q = some (.lst (nV (M14.row R j)))) (sz (by omega)) (fun i acc H' p => Nat.le_of_eq p.2.1) nD ⟨Same.refl _, rfl, List.nodup_nil, fun j x e => by simp at e⟩ (fun i acc H' p _ => sqT_same hST (p.1.trans (del_same _ _))) (fun i y Hh H' acc C N hi p hD yy c n => ?_) (fun H5 xs' hD5 p => ?_)
    · obtain ⟨rfl, hy⟩ := yy
      obtain ⟨sm, hlen, hnod, hacc⟩ := p
      obtain ⟨d, hd, hdp⟩ := dpAll_back hAll hy
      rw [List.getElem?_map] at hd
      obtain ⟨rr, hr2, rfl⟩ := Option.map_eq_some_iff.mp hd
      obtain ⟨pa, zs, rfl, hS2, hA2⟩ := dp_tuple hdp
      rw [dpAll_nats hA2] at hS2
      have sH := sm.trans (del_same _ _)
      refine ⟨rfl, yes_te ⟨_, rfl, pa, nV rr, rfl, .inr (sqT_same hS2 sH), fun l nl => ?_⟩⟩
      have nlD : l ≠ D := fun e => by rw [e, hD] at nl; cases nl
      refine c _ _ (by rw [upd_ne nlD.symm]; exact hD) ⟨same_del (same_up sH (sH.free nl)) nD, by rw [List.length_append, hlen]; rfl, ?_, fun j x e => ?_⟩
      · rw [List.nodup_append]
        refine ⟨hnod, by simp, fun x hx y hy z => ?_⟩
        rw [List.mem_singleton] at hy
        subst hy
        subst z
        obtain ⟨jj, hjj⟩ := List.mem_iff_getElem?.mp hx
        obtain ⟨q1, e1, n1, n2, e2⟩ := hacc jj _ hjj
        cases e1
        rw [del_ne n2] at e2
        rw [e2] at nl
        cases nl
      by_cases hj : j < acc.length
      · rw [List.getElem?_append_left hj] at e
        obtain ⟨q1, e1, n1, n2, e2⟩ := hacc j x e
        refine ⟨q1, e1, n1, n2, ?_⟩
        rw [del_ne n2] at e2
        rw [del_ne n2, upd_ne (ne_of_none e2 nl)]
        exact e2
      · have hj2 : j = i := by
          have := (List.getElem?_eq_some_iff.mp e).1
          rw [List.length_append, List.length_singleton] at this
          omega
        subst hj2
        rw [List.getElem?_append_right (by omega), hlen, Nat.sub_self] at e
        cases e
        exact ⟨l, rfl, sH.free nl, nlD, by rw [del_ne nlD, upd_same, M14.row_get hr2]⟩
    · obtain ⟨sm, hlen, hnod, hacc⟩ := p
      refine q _ D (sm.trans (del_same _ _)) nD ⟨xs', hD5, by rw [hlen, hyl], hnod, fun i x e => ?_⟩
      obtain ⟨q1, e1, n1, n2, e2⟩ := hacc i x e
      exact ⟨q1, e1, n1, n2, del_same _ _ _ _ e2⟩
/-- a new machine -/
def NewM (K : PySem.W.Frag) (C : Addr) (H : Hp) (Q : VK) (sg : List Nat) (R : List (List Nat)) (k : List Bool) : Prop := ∀ H' x, Same H H' → H x = none → Mach C K H' x sg R k → Q (.ref x) H'
def spWantListed (K : PySem.W.Frag) (C : Addr) : Sp := fun vs H Q _ => ∃ (a : Addr) (v : V) (S : List Nat) (sg : List Nat) (R : List (List Nat)) (k : List Bool), vs = [.ref a, v] ∧ Mach C K H a sg R k ∧ Sq K H v (nV S) ∧ S.Nodup ∧ (∀ p ∈ S, p < R.length) ∧ ∀ H', Same H H' → Q .non H'
theorem ok_want_listed (T : All K mg) : FnOk P w K mg base CX0 3 T.f_want_listed T.d_want_listed ["machine", "places"] (spWantListed K T.C_Machine) := by
  refine T.want_listed.F.ok sc_want_listed (fun vs H Q E h => ?_) (fun cdv A outer s H vs Q E hr h => ?_)
  · obtain ⟨a, v, S, sg, R, k, rfl, _⟩ := h
    rfl
  · obtain ⟨a, v, S, sg, R, k, rfl, hM, hS, hnd, hlt, q⟩ := h
    obtain ⟨dx, r, qq, hat, hr1, hk1⟩ := hM.at_
    refine ⟨_, pss_cons (ps_if (pt_not (pt_val (pe_call (ok_is_list T) (hr.mono (by decide)) (by rfl) T.is_list.g T.is_list.F.kp T.is_list.b .nil pass0 (pa_cons (pv 1) pa_nil)))) (pss_one ps_never) pss_nil)
      (pss_one (ps_for PassesOwn.never rfl (pi_enumS rfl T.b_enumerate (pa_cons (pv 1) pa_nil)) (pg_tup rfl (pgs_cons (pg_name (i := 2) sc_want_listed.nd rfl (by first | exact Or.inl rfl | exact Or.inr rfl)) (pgs_cons (pg_name (i := 3) sc_want_listed.nd rfl (by first | exact Or.inl rfl | exact Or.inr rfl)) pgs_nil)))
        (pss_one (ps_if (PW.pt (pw_or (pt_not (pt_val (pe_call (ok_is_count T) (hr.mono (by decide)) (by rfl) T.is_count.g T.is_count.F.kp T.is_count.b .nil pass0 (pa_cons (pv 3) pa_nil)))) (pw_or (pt_cmpR op_ge (pv 3) (pe_callB call_len_seq (by rfl) T.b_len PySem.boot_len (pa_cons (pe_fld (pv 0) rfl) pa_nil)) (nomark _)) (pw_or1 (pt_cmpR op_inN (pv 3) (pe_slice (SlR.or sl_list sl_tup) (pv 1) po_none (po_some (pv 2))) (by rfl)))))) (pss_one ps_never) pss_nil)))), ?_⟩
    refine ⟨_, rfl, v, _, rfl, hS, fun H1 s1 => ⟨true, rfl, iteF ?_⟩⟩
    obtain ⟨xs, hrS, hrl⟩ := (rw_dTR hr1).sq
    obtain ⟨y, ey, hy⟩ := sq_src hS
    refine ⟨_, rfl, y, _, congrArg (fun z => [z]) ey, hy _ s1, for_it walk_enumS (fun i σ H' => ∃ p r, σ = [some (.ref a), some v, p, r] ∧ Same H H') ⟨none, none, rfl, s1⟩ (fun i σ H' _ p => by obtain ⟨_, _, _, sm⟩ := p; exact hy _ sm) (fun i x σ H3 H4 hi p y => ?_) (fun σ H3 p => ?_)⟩
    · obtain ⟨p0, r0, rfl, sm⟩ := p
      obtain ⟨Tp, x1, x2, rfl, nT, rfl, e1, e2⟩ := y
      cases e1
      have e2 : (nV S)[i]? = some x2 := e2
      obtain ⟨n, hn, rfl⟩ := nV_inv e2
      have hnS := List.mem_of_getElem? hn
      have hnl := hlt n hnS
      rw [nV_len] at hi
      have sm2 := same_up (o := .tup [.int (i : Nat), .int (n : Nat)]) sm (sm.free nT)
      refine ⟨Tp, _, rfl, .inl (.inl upd_same), rfl, _, _, rfl, _, _, rfl, rfl, ?_⟩
      refine ⟨_, rfl, n, rfl, true, rfl, iteF ?_⟩
      refine ⟨_, rfl, _, rfl, a, T.C_Machine, dx, _, _, rfl, sm2 _ _ hat, T.cl_Machine, T.n_Machine_own_rows, rfl, r, xs, rfl, (by obtain ⟨z, e, h⟩ := hrS.same sm2; cases e; exact h), _, _, rfl, rfl, _, rfl, ite_f (decide_eq_false (by omega)) ?_⟩
      have hcut : cutV (nV S) none (some (i : Int)) = nV (S.take i) := by
        unfold cutV
        rw [HT.sIx_none, HT.sIx_nat, List.drop_zero, Nat.sub_zero, nV_len, Nat.min_eq_left (Nat.le_of_lt hi)]
        unfold nV
        rw [List.map_take]
      have hnot : decide (n ∈ S.take i) = false := decide_eq_false fun hm => by
        obtain ⟨j, hj⟩ := List.mem_iff_getElem?.mp hm
        have hj1 := (List.getElem?_eq_some_iff.mp hj).1
        rw [List.length_take] at hj1
        rw [List.getElem?_take_of_lt (by omega)] at hj
        obtain ⟨q1, q2⟩ := List.getElem?_eq_some_iff.mp hj
        obtain ⟨q3, q4⟩ := List.getElem?_eq_some_iff.mp hn
        exact List.pairwise_iff_getElem.mp hnd j i q1 q3 (by omega) (q2.trans q4.symm)
      obtain ⟨va, rfl, hSv⟩ := hS.same sm2
      refine ⟨_, rfl, _, rfl, _, rfl, (i : Int), rfl, ?_⟩
      rcases hSv with hSv | hSv
      · refine .inl ⟨va, _, rfl, hSv, fun p np => ⟨_, n, rfl, sq_list (.inl (.inl (by rw [hcut]; exact upd_same))), _, rfl, ite_f hnot ⟨_, _, rfl, same_up sm2 (sm2.free np)⟩⟩⟩
      · refine .inr ⟨va, _, rfl, hSv, fun z => ?_, fun p np => ⟨_, n, rfl, sq_tuple (.inl (.inl (by rw [hcut]; exact upd_same))), _, rfl, ite_f hnot ⟨_, _, rfl, same_up sm2 (sm2.free np)⟩⟩⟩
        rw [HT.sIx_nat, nV_len] at z
        omega
    · obtain ⟨p0, r0, rfl, sm⟩ := p
      exact q _ sm
def spTurned (K : PySem.W.Frag) (C : Addr) : Sp := fun vs H Q _ => ∃ (a : Addr) (v : V) (S : List Nat) (sg : List Nat) (R : List (List Nat)) (k : List Bool), vs = [.ref a, v] ∧ Mach C K H a sg R k ∧ Sq K H v (nV S) ∧ S.Nodup ∧ (∀ p ∈ S, p < R.length) ∧ NewM K C H Q sg R (M74.tk k S)
theorem ok_turned_by (T : All K mg) : FnOk P w K mg base CX0 6 T.f_turned_by T.d_turned_by ["machine", "places"] (spTurned K T.C_Machine) := by
  refine T.turned_by.F.ok sc_turned_by (fun vs H Q E h => ?_) (fun cdv A outer s H vs Q E hr h => ?_)
  · obtain ⟨a, v, S, sg, R, k, rfl, _⟩ := h
    rfl
  · obtain ⟨a, v, S, sg, R, k, rfl, hM, hS, hnd, hlt, q⟩ := h
    obtain ⟨dx, r, qq, hat, hr1, hk1⟩ := hM.at_
    have hGd := hM.good
    have hfew := hGd.few
    have hkin := hGd.kin
    refine ⟨_, pss_cons (ps_setLc (i := 2) (own := [("place", 3), ("kind", 4)]) (tt := tYes) (by rfl) sc_turned_by.nd rfl rfl (sw_true rfl rfl rfl (by decide +kernel)) (pi_enumS rfl T.b_enumerate (pa_cons (pe_fld (pv 0) rfl) pa_nil))
          (blkOk_by (own := [("place", 3), ("kind", 4)]) (N := ["machine", "places", "kinds", "place", "kind"]) (sc := defScope s_turned_by) (by decide +kernel))
          (fun _ _ _ _ _ => (pg_tupK (K := K) (n := 2) rfl rfl (pgs_cons (pg_name (i := 3) sc_turned_by.nd rfl (Or.inl rfl)) (pgs_cons (pg_name (i := 4) sc_turned_by.nd rfl (Or.inl rfl)) pgs_nil)) rfl)) (fun _ _ _ _ _ => pts_nil)
          (fun _ _ _ _ _ => (pe_cmpR op_ne (pv 4) (pe_cmpR (op_inNK (K := K) rfl) (pv 3) (pv 1) (by rfl)) (by rfl))))
      (pss_one (ps_ret (pe_make ⟨T.mk_Machine, T.Machine_init.m.at_, T.Machine_init.m.fn, T.kp_Machine⟩ (ok_Machine_init T) (hr.mono (by decide)) (by rfl) T.g_Machine T.Machine_init.b .nil pass0 (pa_cons (pe_fld (pv 0) rfl) (pa_cons (pe_call (ok_lists_of T) (hr.mono (by decide)) (by rfl) T.lists_of.g T.lists_of.F.kp T.lists_of.b .nil pass0 (pa_cons (pe_fld (pv 0) rfl) pa_nil)) (pa_cons (pv 2) pa_nil)))))), ?_⟩
    obtain ⟨y, ey, hy⟩ := sq_src (sq_tuple hk1)
    refine ⟨_, rfl, a, T.C_Machine, dx, _, _, rfl, hat, T.cl_Machine, T.n_Machine_own_kinds, rfl, y, _, congrArg (fun z => [z]) ey, hy _ (Same.refl _), fun D nD => ?_⟩
    refine lc_gen (walk_enumS (y := y) (xs := k.map V.bl)) (Same H) (fun i acc => acc = ((List.range i).map fun j => M14.kAt k j != decide (j ∈ S)).map V.bl) (sz (by rw [List.length_map]; omega)) (fun i acc e => by rw [e, List.length_map, List.length_map, List.length_range]; exact Nat.le_refl _) rfl (same_upd nD) (fun _ _ h => same_up h nD) (fun _ h => hy _ h) (fun i x H2 H3 acc C N hi rs hD ha y c n => ?_) (fun H2 xs rs hD ha => ?_)
    · obtain ⟨Tp, v1, v2, rfl, nT, rfl, e1, e2⟩ := y
      cases e1
      have e2 : (k.map V.bl)[i]? = some v2 := e2
      rw [List.length_map] at hi
      rw [kAt_get hi] at e2
      cases e2
      have nTD : D ≠ Tp := ne_of_none hD nT
      have rs2 := same_up (o := .tup [.int (i : Nat), .bl (M14.kAt k i)]) rs (rs.free nT)
      have hD2 : (upd H2 Tp (.tup [.int (i : Nat), .bl (M14.kAt k i)])) D = some (.lst acc) := by rw [upd_ne nTD]; exact hD
      refine ⟨Tp, _, rfl, .inl (.inl upd_same), rfl, _, _, rfl, _, _, rfl, rfl, rfl, yes_te ⟨_, rfl, _, rfl, _, rfl, S, i, rfl, hS.same rs2, rfl, c _ _ rs2 hD2 ?_⟩⟩
      rw [ha, List.range_succ, List.map_append, List.map_append]
      refine congrArg (_ ++ ·) ?_
      show [V.bl (!decide (V.bl (M14.kAt k i) = V.bl (decide (i ∈ S))))] = [V.bl (M14.kAt k i != decide (i ∈ S))]
      cases M14.kAt k i <;> cases decide (i ∈ S) <;> rfl
    subst ha
    rw [List.length_map] at hD
    refine ⟨_, rfl, a, T.C_Machine, dx, _, _, rfl, rs _ _ hat, T.cl_Machine, T.n_Machine_own_letters, rfl, ?_⟩
    refine ⟨_, rfl, a, T.C_Machine, dx, _, _, rfl, rs _ _ hat, T.cl_Machine, T.n_Machine_own_rows, rfl, r, R, rfl, Dp.same rs hr1, hfew, fun H3 p3 s3 n3 hN => ?_⟩
    refine ⟨_, rfl, ?_⟩
    intro m1 dx_m1 n_m1 nd_m1 _
    refine make_ok (k := M74.tk k S) hM.lets (rw_dLR hN.one.dp) (sq_list (.inl (.inl (s3 _ _ hD)))) (M74.tk_good hGd S) n_m1 nd_m1 (fun H4 s4 hM1 => ?_)
    have s04 := rs.trans s3
    exact q _ _ (s04.trans s4) (s04.free n_m1) hM1
theorem ok_turned (T : All K mg) : FnOk P w K mg base CX0 7 T.f_turned T.d_turned ["machine", "places"] (spTurned K T.C_Machine) := by
  refine T.turned.F.ok sc_turned (fun vs H Q E h => ?_) (fun cdv A outer s H vs Q E hr h => ?_)
  · obtain ⟨a, v, S, sg, R, k, rfl, _⟩ := h
    rfl
  · obtain ⟨a, v, S, sg, R, k, rfl, hM, hS, hnd, hlt, q⟩ := h
    refine ⟨_, pss_cons (ps_expr (pe_call (ok_want_listed T) (hr.mono (by decide)) (by rfl) T.want_listed.g T.want_listed.F.kp T.want_listed.b .nil pass0 (pa_cons (pv 0) (pa_cons (pv 1) pa_nil))))
      (pss_one (ps_ret (pe_call (ok_turned_by T) (hr.mono (by decide)) (by rfl) T.turned_by.g T.turned_by.F.kp T.turned_by.b .nil pass0 (pa_cons (pv 0) (pa_cons (pv 1) pa_nil))))), ?_⟩
    refine ⟨_, rfl, _, rfl, a, v, S, sg, R, k, rfl, hM, hS, hnd, hlt, fun H1 s1 => ?_⟩
    exact ⟨_, rfl, _, rfl, a, v, S, sg, R, k, rfl, hM.same s1, hS.same s1, hnd, hlt, fun H2 x s2 nx hM2 => q _ _ (s1.trans s2) (s1.free nx) hM2⟩
end
end Lw
namespace Lw
open PySem PySem.Spec PyProof.Rows L3
open L2 hiding del del_same del_ne
section
variable {w : World} {K : PySem.W.Frag} {mg : Str → Option Value} {base : Heap}
def spInitX (K : PySem.W.Frag) (C Ce : Addr) : Sp := fun vs H Q E => ∃ (x dx : Addr) (sg : List Nat) (a b : V) (R : List (List Nat)) (k : List Bool), vs = [.ref x, tx sg, a, b] ∧ H x = some (.ins C dx []) ∧ Lets sg ∧ Rw K H a R ∧ Sq K H b (k.map V.bl) ∧ M14.Sht sg.length R k ∧
  (M14.Good sg.length R k → ∀ H', (∀ b o, H b = some o → b ≠ x → H' b = some o) → Mach C K H' x sg R k → Q .non H') ∧
  (∀ p, p < R.length → p ∉ M14.met R 0 → (∀ j, j < p → j ∈ M14.met R 0) → ∀ H' d, Same H H' → H' d = some (.xd [("place", .int (p : Int))]) → E (.ref Ce) (some d) H')
theorem ok_Machine_initX (T : All K mg) : FnOk PW w K mg base (L2.CX PW w) 4 T.f_Machine_init T.d_Machine_init ["self", "letters", "rows", "kinds"] (spInitX K T.C_Machine T.C_NotComeTo) := by
  refine T.Machine_init.F.okX sc_Machine_init (fun vs H Q E h => ?_) (fun cdv A outer s H vs Q E hr h => ?_)
  · obtain ⟨x, dx, sg, a, b, R, k, rfl, _⟩ := h
    rfl
  · obtain ⟨x, dx, sg, a, b, R, k, rfl, hx, hl, hR, hk, hG, q, qE⟩ := h
    refine ⟨_, pss_cons (ps_expr (pe_call (ok_want_machine T) (hr.mono (by decide)) (by rfl) T.want_machine.g T.want_machine.F.kp T.want_machine.b .nil pass0 (pa_cons (pv 1) (pa_cons (pv 2) (pa_cons (pv 3) pa_nil)))))
      (pss_cons (ps_set (i := 4) sc_Machine_init.nd rfl (by first | exact Or.inl rfl | exact Or.inr rfl) (pe_call (ok_met_from T) (hr.mono (by decide)) (by rfl) T.met_from.g T.met_from.F.kp T.met_from.b .nil pass0 (pa_cons (pv 2) (pa_cons pe_int pa_nil))))
      (pss_cons (ps_for (passes_of rfl) rfl (pi_range1 rfl T.b_range (pa_cons (pe_callB call_len_seq (by rfl) T.b_len PySem.boot_len (pa_cons (pv 2) pa_nil)) pa_nil)) (pg_name (i := 5) sc_Machine_init.nd rfl (by first | exact Or.inl rfl | exact Or.inr rfl))
        (pss_one (ps_if (pt_cmpR op_notInN (pv 5) (pv 4) (by rfl)) (pss_one (ps_raise1 rfl T.er_NotComeTo.er (hr.mono (by decide)) (takes_of rfl rfl rfl rfl) T.g_NotComeTo (pa_cons (pv 5) pa_nil))) pss_nil)))
      (pss_cons (ps_fld (pv 0) (pv 1) rfl)
      (pss_cons (ps_fld (pv 0) (pe_callTy call_tuple_of (by rfl) T.b_tuple (show bootBuiltins "tuple" = some (.type "tuple") by decide +kernel) (pa_cons (pe_lc (own := [("row", 6)]) (g := gName 6) (tt := tYes) rfl sc_Machine_init.nd (pi_sq (pv 2))
          (blkOk_by (own := [("row", 6)]) (N := ["self", "letters", "rows", "kinds", "met", "place", "row"]) (sc := defScope s_Machine_init) (by decide +kernel))
          (fun _ _ _ _ _ => pg_name (i := 6) sc_Machine_init.nd rfl (by first | exact Or.inl rfl | exact Or.inr rfl)) (fun _ _ _ _ _ => pts_nil)
          (fun _ _ _ _ _ => (pe_callTy (call_tuple_ofK (K := K) rfl) (by rfl) T.b_tuple (show bootBuiltins "tuple" = some (.type "tuple") by decide +kernel) (pa_cons (pv 6) pa_nil)))) pa_nil)) rfl)
      (pss_one (ps_fld (pv 0) (pe_callTy call_tuple_of (by rfl) T.b_tuple (show bootBuiltins "tuple" = some (.type "tuple") by decide +kernel) (pa_cons (pv 3) pa_nil)) rfl)))))), ?_⟩
    refine ⟨_, rfl, _, rfl, _, rfl, sg, a, b, R, k, rfl, hl, hR, hk, hG, fun H1 s1 => ?_⟩
    refine ⟨_, rfl, a, R, 0, rfl, hR.same s1, hG.val, hG.ne, hG.few, fun H2 M s2 nM hM => ?_⟩
    have s12 := s1.trans s2
    obtain ⟨xs, hS, hlen, hrow⟩ := id hR
    obtain ⟨aa, rfl, hSS⟩ := hS.same s12
    refine ⟨_, rfl, aa, xs, rfl, hSS, _, rfl, by omega, by have := hG.few; omega, ?_⟩
    rw [show ((xs.length : Int)).toNat = xs.length by omega]
    refine for_it walk_range (fun i σ H' => ∃ p, σ = [some (.ref x), some (tx sg), some (.ref aa), some b, some (.ref M), p, none] ∧ H' = H2 ∧ ∀ j, j < i → j ∈ M14.met R 0) ⟨none, rfl, rfl, fun j hj => by omega⟩ (fun _ _ _ _ _ => trivial) (fun i x' σ H3 H4 hi p y => ?_) (fun σ H3 p => ?_)
    · obtain ⟨p0, rfl, rfl, hal⟩ := p
      obtain ⟨rfl, rfl⟩ := y
      refine ⟨_, rfl, _, rfl, _, i, congrArg V.int (Int.zero_add _), sq_list (.inl (.inl hM)), _, rfl, ?_⟩
      by_cases hin : i ∈ M14.met R 0
      · refine ite_f (by simp [hin]) ⟨_, rfl, rfl, fun j hj => ?_⟩
        rcases Nat.lt_or_ge j i with z | z
        · exact hal j z
        · rw [show j = i by omega]; exact hin
      · refine ite_t (by simp [hin]) ⟨_, rfl, _, rfl, fun d nd => ?_⟩
        exact qE i (by omega) hin hal _ d (s12.trans (same_upd nd)) (by rw [upd_same]; show some (HO.xd [("place", V.int (0 + (i : Int)))]) = _; rw [Int.zero_add])
    · obtain ⟨p0, rfl, rfl, hal⟩ := p
      have hGd : M14.Good sg.length R k := ⟨hG, fun p hp => hal p (by omega)⟩
      replace q := q hGd
      clear qE
      replace hG := hGd
      have hx2 := s12 _ _ hx
      have hB0 : (del H x) x = none := del_at H x
      have sB2 : Same (del H x) H3 := (del_same H x).trans s12
      have hSB : Sq K (del H x) (.ref aa) xs := sq_del hx hS
      have hrB : ∀ (i : Nat) (y : V) (r : List Nat), xs[i]? = some y → R[i]? = some r → Sq K (del H x) y (nV r) := fun i y r h1 h2 => sq_del hx (hrow i y r h1 h2)
      have hkB : Sq K (del H x) b (k.map V.bl) := sq_del hx hk
      refine ⟨_, rfl, _, rfl, x, T.C_Machine, dx, [], rfl, hx2, T.cl_Machine, T.n_Machine_own_letters, by decide, ?_⟩
      have sB4 : Same (del H x) (upd H3 x (.ins T.C_Machine dx (putF "own_letters" (tx sg) []))) := same_up sB2 hB0
      refine ⟨_, rfl, xs, del H x, hSB, sB4, fun J G wk hGG D nD => ?_⟩
      have hBD : (del H x) D = none := sB4.free nD
      refine lc_data (K := K) wk (R.map fun r => .tuple (dN r)) (by rw [List.length_map, hlen]) (sz (by have := hG.few; omega)) nD (fun H' s' => hGG H' (sB4.trans s')) (fun i y Hh H' acc d C hi sm hD yy hd c => ?_) gName_mono (fun H5 xs' s5 hD5 hA => ?_)
      · obtain ⟨rfl, hy⟩ := yy
        rw [List.getElem?_map] at hd
        obtain ⟨r, hr1, rfl⟩ := Option.map_eq_some_iff.mp hd
        obtain ⟨pa, rfl, hp⟩ := hrB i y r hy hr1
        have sBh := sB4.trans sm
        refine ⟨rfl, ⟨_, rfl, pa, nV r, rfl, ?_⟩⟩
        rcases hp with hp | hp
        · refine .inl ⟨sq_same hp sBh, fun l nl => c _ _ (same_upd nl) (.tup (.inl (.inl ?_)) (dpAll_nV r))⟩
          rw [del_ne (fun e => by rw [e, hD] at nl; cases nl), upd_same]
        · exact .inr ⟨sqT_same hp sBh, c _ _ (Same.refl _) (.tup (sqT_same hp (same_del sBh hBD)) (dpAll_nV r))⟩
      · have hx5 := s5 _ _ (upd_same (H := H3) (a := x))
        have nDx : x ≠ D := fun e => by rw [← e, upd_same] at nD; cases nD
        refine ⟨D, xs', rfl, .inl ⟨.inl (.inl hD5), fun r nr => ?_⟩⟩
        have nrx : x ≠ r := fun e => by rw [← e, hx5] at nr; cases nr
        have hx6 : upd H5 r (.tup xs') x = some (.ins T.C_Machine dx (putF "own_letters" (tx sg) [])) := by rw [upd_ne nrx]; exact hx5
        refine ⟨_, rfl, x, T.C_Machine, dx, _, rfl, hx6, T.cl_Machine, T.n_Machine_own_rows, putF_lt (n := 0) (Nat.zero_le _) (by decide), ?_⟩
        have sB5 := sB4.trans s5
        have hBr : (del H x) r = none := sB5.free nr
        have sB6 : Same (del H x) (upd (upd H5 r (.tup xs')) x (.ins T.C_Machine dx (putF "own_rows" (.ref r) (putF "own_letters" (tx sg) [])))) := same_up (same_up sB5 hBr) hB0
        have hA2 : DpAll K (del (del H5 D) x) xs' (R.map fun r => .tuple (dN r)) := dpAll_del (by rw [del_ne nDx]; exact hx5) hA
        have sA : ∀ H7, Same (upd (del (del H5 D) x) r (.tup xs')) H7 → Dp K H7 (.ref r) (dTR R) := fun H7 s7 => .tup (.inl (.inl (s7 _ _ upd_same))) (DpAll.same ((same_upd (by
          rw [del_ne nrx.symm]; unfold del; split <;> first | rfl | exact nr)).trans s7) hA2)
        have s66 : Same (upd (del (del H5 D) x) r (.tup xs')) (upd (upd H5 r (.tup xs')) x (.ins T.C_Machine dx (putF "own_rows" (.ref r) (putF "own_letters" (tx sg) [])))) := fun bb o e => by
          have nbx : bb ≠ x := fun z => by
            rw [z, upd_ne nrx, del_at] at e; cases e
          rw [upd_ne nbx]
          by_cases hbr : bb = r
          · rw [hbr, upd_same] at e ⊢; exact e
          · rw [upd_ne hbr, del_ne nbx] at e
            rw [upd_ne hbr]
            exact del_same _ _ _ _ e
        have fin : ∀ (H7 : Hp) (qq : Addr), Same (upd (upd H5 r (.tup xs')) x (.ins T.C_Machine dx (putF "own_rows" (.ref r) (putF "own_letters" (tx sg) [])))) H7 → SqT K (del H7 x) qq (k.map V.bl) → Q .non (upd H7 x (.ins T.C_Machine dx (putF "own_kinds" (.ref qq) (putF "own_rows" (.ref r) (putF "own_letters" (tx sg) []))))) := fun H7 qq s7 hq => by
          have hx7 := s7 _ _ (upd_same (a := x))
          have sd : Same (del H7 x) (upd H7 x (.ins T.C_Machine dx (putF "own_kinds" (.ref qq) (putF "own_rows" (.ref r) (putF "own_letters" (tx sg) []))))) := same_up (del_same _ _) (del_at _ _)
          refine q _ (fun bb o e nb => ?_) ⟨⟨dx, r, qq, upd_same, ?_, sqT_same hq sd⟩, hl, hG⟩
          · rw [upd_ne nb]
            exact s7 _ _ (sB6 _ _ (by rw [del_ne nb]; exact e))
          · exact Dp.same sd (dp_del hx7 (sA _ (s66.trans s7)))
        obtain ⟨bb, rfl, hkk⟩ := id hkB
        refine ⟨_, rfl, bb, k.map V.bl, rfl, ?_⟩
        rcases hkk with hkk | hkk
        · refine .inl ⟨sq_same hkk sB6, fun qq nq => ?_⟩
          have nqx : x ≠ qq := fun e => by rw [← e, upd_same] at nq; cases nq
          refine ⟨_, rfl, x, T.C_Machine, dx, _, rfl, by rw [upd_ne nqx, upd_same], T.cl_Machine, T.n_Machine_own_kinds, putF_lt (n := 1) (putF_len _ _ _) (by decide), ?_⟩
          exact fin _ qq (same_upd nq) (.inl (.inl (by rw [del_ne nqx.symm, upd_same])))
        · refine .inr ⟨sqT_same hkk sB6, ?_⟩
          refine ⟨_, rfl, x, T.C_Machine, dx, _, rfl, upd_same, T.cl_Machine, T.n_Machine_own_kinds, putF_lt (n := 1) (putF_len _ _ _) (by decide), ?_⟩
          exact fin _ bb (Same.refl _) (sqT_same hkk (same_del sB6 hB0))
end
end Lw
namespace Lw
open PySem PySem.Spec PyProof.Rows L3
open L2 hiding del del_same del_ne
def isIntD : PyData → Bool
  | .int _ => true
  | _ => false
def isBoolD : PyData → Bool
  | .bool _ => true
  | _ => false
def isPlaceD (n : Nat) : PyData → Bool
  | .int i => decide (0 ≤ i ∧ i < (n : Int))
  | _ => false
def isLetterD (sg : List Nat) : PyData → Bool
  | .str x => (x.cps.toList.all fun c => decide (c ∈ sg)) && decide (x.cps.toList.length = 1)
  | _ => false
/-- texts are not too long -/
def shortD : PyData → Prop
  | .str x => x.cps.toList.length ≤ 1000
  | _ => True
theorem kb_str {d : PyData} (h : ∀ x, d ≠ .str x) : kitB (tyD d) "str" = some false := by
  cases d with
  | str x => exact absurd rfl (h x)
  | _ => simp only [tyD]; decide +kernel
theorem kb_int {d : PyData} : kitB (tyD d) "int" = some (isIntD d || isBoolD d) := by
  cases d <;> simp only [tyD, isIntD, isBoolD] <;> decide +kernel
theorem kb_bool {d : PyData} : kitB (tyD d) "bool" = some (isBoolD d) := by
  cases d <;> simp only [tyD, isBoolD] <;> decide +kernel
theorem dpd_text {K : PySem.W.Frag} {H : Hp} {v : V} {x : Str} (h : DpD K H v (.str x)) : v = tx x.cps.toList := by
  rw [h.str_inv]
section
variable {P : Program} {w : World} {K : PySem.W.Frag} {mg : Str → Option Value} {base : Heap}
def spIsIntegerA (K : PySem.W.Frag) : Sp := fun vs H Q _ => ∃ v d, vs = [v] ∧ DpD K H v d ∧ Q (.bl (isIntD d)) H
theorem ok_is_integerA (T : All K mg) : FnOk P w K mg base CX0 1 T.f_is_integer T.d_is_integer ["value"] (spIsIntegerA K) := by
  refine T.is_integer.F.ok sc_is_integer (fun vs H Q E h => ?_) (fun cdv A outer s H vs Q E hr h => ?_)
  · obtain ⟨v, d, rfl, _⟩ := h
    rfl
  · obtain ⟨v, d, rfl, hd, q⟩ := h
    refine ⟨_, pss_one (ps_ret (pe_and (pe_callB call_isi (by rfl) T.b_isinstance boot_isinstance (pa_cons (pv 0) (pa_cons (pe_bltn (v := .ty "int") (by rfl) T.b_int (by decide +kernel) rfl) pa_nil)))
        (pe_one (pe_not (pe_callB call_isi (by rfl) T.b_isinstance boot_isinstance (pa_cons (pv 0) (pa_cons (pe_bltn (v := .ty "bool") (by rfl) T.b_bool (by decide +kernel) rfl) pa_nil))))))), ?_⟩
    refine ⟨v, rfl, v, .ty "int", .type (tyD d), .type "int", _, rfl, .ty _, tyx_dpD hd, kit_ty kb_int, _, rfl, ?_⟩
    cases h1 : isIntD d <;> cases h2 : isBoolD d
    · exact ite_f rfl (by rw [h1] at q; exact q)
    · exact ite_t rfl ⟨v, rfl, v, .ty "bool", .type (tyD d), .type "bool", _, rfl, .ty _, tyx_dpD hd, kit_ty kb_bool, _, rfl, by rw [h2]; rw [h1] at q; exact q⟩
    · exact ite_t rfl ⟨v, rfl, v, .ty "bool", .type (tyD d), .type "bool", _, rfl, .ty _, tyx_dpD hd, kit_ty kb_bool, _, rfl, by rw [h2]; rw [h1] at q; exact q⟩
    · exact absurd h2 (by cases d <;> simp [isIntD, isBoolD] at h1 ⊢)
end
end Lw
namespace Lw
open PySem PySem.Spec PyProof.Rows L3
open L2 hiding del del_same del_ne
theorem sqL_ext {K : PySem.W.Frag} {H H' : Hp} {a : Addr} {xs : List V} (h : SqL K H a xs) (e : LamX.ExtN H H') : SqL K H' a xs := by
  rcases h with (h | ⟨o, h⟩) | h
  · exact .inl (.inl (e _ _ h (fun ps z => by cases z)))
  · exact .inl (.inr ⟨o, e _ _ h (fun ps z => by cases z)⟩)
  · exact .inr h
theorem sqT_ext {K : PySem.W.Frag} {H H' : Hp} {a : Addr} {xs : List V} (h : SqT K H a xs) (e : LamX.ExtN H H') : SqT K H' a xs := by
  rcases h with (h | ⟨o, h⟩) | h
  · exact .inl (.inl (e _ _ h (fun ps z => by cases z)))
  · exact .inl (.inr ⟨o, e _ _ h (fun ps z => by cases z)⟩)
  · exact .inr h
mutual
theorem dp_ext {K : PySem.W.Frag} {H H' : Hp} (e : LamX.ExtN H H') : ∀ {v : V} {d : PyData}, Dp K H v d → Dp K H' v d
  | _, _, .non => .non
  | _, _, .bl b => .bl b
  | _, _, .int i => .int i
  | _, _, .str x => .str x
  | _, _, .lst h a => .lst (sqL_ext h e) (dpAll_ext e a)
  | _, _, .tup h a => .tup (sqT_ext h e) (dpAll_ext e a)
theorem dpAll_ext {K : PySem.W.Frag} {H H' : Hp} (e : LamX.ExtN H H') : ∀ {vs : List V} {ds : List PyData}, DpAll K H vs ds → DpAll K H' vs ds
  | _, _, .nil => .nil
  | _, _, .cons a b => .cons (dp_ext e a) (dpAll_ext e b)
end
mutual
theorem dpD_ext {K : PySem.W.Frag} {H H' : Hp} (e : LamX.ExtN H H') : ∀ {v : V} {d : PyData}, DpD K H v d → DpD K H' v d
  | _, _, .data h => .data (dp_ext e h)
  | _, _, .lst h t => .lst (sqL_ext h e) (dpDs_ext e t)
  | _, _, .tup h t => .tup (sqT_ext h e) (dpDs_ext e t)
  | _, _, .dct h t z => .dct (e _ _ h (fun ps z => by cases z)) (dpDs_ext e t) z
theorem dpDs_ext {K : PySem.W.Frag} {H H' : Hp} (e : LamX.ExtN H H') : ∀ {vs : List V} {ds : List PyData}, DpDs K H vs ds → DpDs K H' vs ds
  | _, _, .nil => .nil
  | _, _, .cons h t => .cons (dpD_ext e h) (dpDs_ext e t)
end
theorem dpd_same {K : PySem.W.Frag} {H H' : Hp} {v : V} {d : PyData} (h : DpD K H v d) (s : Same H H') : DpD K H' v d := dpD_ext (LamX.ExtN.of s) h
section
variable {w : World} {K : PySem.W.Frag} {mg : Str → Option Value} {base : Heap}
/-- raises: the class, the field, the value -/
def Rz (C : Addr) (f : Str) (v : V) (H : Hp) (E : XK) : Prop := ∀ H' e, Same H H' → H' e = some (.xd [(f, v)]) → E (.ref C) (some e) H'
theorem Rz.same {C : Addr} {f : Str} {v : V} {H H1 : Hp} {E : XK} (h : Rz C f v H E) (s : Same H H1) : Rz C f v H1 E := fun H' e s' he => h H' e (s.trans s') he
def spWantLetterA (K : PySem.W.Frag) (Ce : Addr) : Sp := fun vs H Q E => ∃ sg v d, vs = [tx sg, v] ∧ DpD K H v d ∧ shortD d ∧ (isLetterD sg d = true → ∀ H', Same H H' → Q .non H') ∧ (isLetterD sg d = false → Rz Ce "value" v H E)
theorem ok_want_letterA (T : All K mg) : FnOk PW w K mg base (L2.CX PW w) 2 T.f_want_letter T.d_want_letter ["letters", "letter"] (spWantLetterA K T.C_InvalidLetter) := by
  refine T.want_letter.F.okX sc_want_letter (fun vs H Q E h => ?_) (fun cdv A outer s H vs Q E hr h => ?_)
  · obtain ⟨sg, v, d, rfl, _⟩ := h
    rfl
  · obtain ⟨sg, v, d, rfl, hd, hz, q, qE⟩ := h
    refine ⟨_, pss_one (ps_if (PW.pt (pw_or (pt_not (pt_val (pe_call (ok_is_text_over T) (hr.mono (by decide)) (by rfl) T.is_text_over.g T.is_text_over.F.kp T.is_text_over.b .nil pass0 (pa_cons (pv 0) (pa_cons (pv 1) pa_nil))))) (pw_or1 (pt_cmpR op_ne (pe_callB call_lenT (by rfl) T.b_len PySem.boot_len (pa_cons (pv 1) pa_nil)) pe_int (nomark _))))) (pss_one (ps_raise1 rfl T.er_InvalidLetter.er (hr.mono (by decide)) (takes_of rfl rfl rfl rfl) T.g_InvalidLetter (pa_cons (pv 1) pa_nil))) pss_nil), ?_⟩
    try dsimp only [cxOf]
    by_cases hs : ∃ x, d = .str x
    · obtain ⟨x, rfl⟩ := hs
      have ev := dpd_text hd
      have hz : x.cps.toList.length ≤ 1000 := hz
      have q : ((x.cps.toList.all fun c => decide (c ∈ sg)) && decide (x.cps.toList.length = 1)) = true → ∀ H', Same H H' → Q .non H' := q
      have qE : ((x.cps.toList.all fun c => decide (c ∈ sg)) && decide (x.cps.toList.length = 1)) = false → Rz T.C_InvalidLetter "value" v H E := qE
      clear hd
      generalize x.cps.toList = l at *
      subst ev
      refine ⟨_, rfl, _, rfl, sg, tx l, rfl, .inl ⟨l, rfl, hz, fun H1 s1 => ?_⟩⟩
      cases ha : l.all fun c => decide (c ∈ sg)
      · refine ⟨false, rfl, iteT ⟨_, rfl, _, rfl, fun e ne => ?_⟩⟩
        rw [ha] at qE
        exact qE rfl _ e (s1.trans (same_upd ne)) upd_same
      · rw [ha] at q qE
        refine ⟨true, rfl, iteF ⟨_, rfl, l, rfl, sz (by omega), rfl, _, rfl, ?_⟩⟩
        by_cases h1 : l.length = 1
        · refine ite_f (by simp [h1]) (q (by simp [h1]) _ s1)
        · refine ite_t (by simp; omega) ⟨_, rfl, _, rfl, fun e ne => ?_⟩
          exact qE (by simp [h1]) _ e (s1.trans (same_upd ne)) upd_same
    · have hs : ∀ x, d ≠ .str x := fun x e => hs ⟨x, e⟩
      have e0 : isLetterD sg d = false := by cases d <;> first | rfl | exact absurd rfl (hs _)
      refine ⟨_, rfl, _, rfl, sg, v, rfl, .inr ⟨tyD d, tyx_dpD hd, kb_str hs, ?_⟩⟩
      refine ⟨false, rfl, iteT ⟨_, rfl, _, rfl, fun e ne => ?_⟩⟩
      exact qE e0 _ e (same_upd ne) upd_same
def spWantPlaceA (K : PySem.W.Frag) (C Ce : Addr) : Sp := fun vs H Q E => ∃ (a : Addr) (v : V) (d : PyData) (sg : List Nat) (R : List (List Nat)) (k : List Bool), vs = [.ref a, v] ∧ Mach C K H a sg R k ∧ DpD K H v d ∧ (isPlaceD R.length d = true → Q .non H) ∧ (isPlaceD R.length d = false → Rz Ce "value" v H E)
theorem ok_want_placeA (T : All K mg) : FnOk PW w K mg base (L2.CX PW w) 2 T.f_want_place T.d_want_place ["machine", "place"] (spWantPlaceA K T.C_Machine T.C_InvalidPlace) := by
  refine T.want_place.F.okX sc_want_place (fun vs H Q E h => ?_) (fun cdv A outer s H vs Q E hr h => ?_)
  · obtain ⟨a, v, d, sg, R, k, rfl, _⟩ := h
    rfl
  · obtain ⟨a, v, d, sg, R, k, rfl, hM, hd, q, qE⟩ := h
    obtain ⟨dx, r, qq, hat, hr1, hk1⟩ := hM.at_
    obtain ⟨xs, hS, hl⟩ := (rw_dTR hr1).sq
    obtain ⟨r', e, hS'⟩ := hS
    cases e
    refine ⟨_, pss_one (ps_if (PW.pt (pw_or (pt_not (pt_val (pe_call (ok_is_integerA T) (hr.mono (by decide)) (by rfl) T.is_integer.g T.is_integer.F.kp T.is_integer.b .nil pass0 (pa_cons (pv 1) pa_nil)))) (pw_or1 (pt_not (pt_chain op_le op_lt pe_int (pv 1) (pe_callB call_len_seq (by rfl) T.b_len PySem.boot_len (pa_cons (pe_fld (pv 0) rfl) pa_nil))))))) (pss_one (ps_raise1 rfl T.er_InvalidPlace.er (hr.mono (by decide)) (takes_of rfl rfl rfl rfl) T.g_InvalidPlace (pa_cons (pv 1) pa_nil))) pss_nil), ?_⟩
    try dsimp only [cxOf]
    by_cases hs : ∃ i, d = .int i
    · obtain ⟨i, rfl⟩ := hs
      cases hd.int_inv
      have q : decide (0 ≤ i ∧ i < (R.length : Int)) = true → Q .non H := q
      have qE : decide (0 ≤ i ∧ i < (R.length : Int)) = false → Rz T.C_InvalidPlace "value" (.int i) H E := qE
      refine ⟨_, rfl, .int i, .int i, rfl, hd, true, rfl, iteF ?_⟩
      by_cases h0 : 0 ≤ i
      · refine ⟨_, rfl, _, _, rfl, rfl, _, rfl, ite_t (decide_eq_true h0) ?_⟩
        refine ⟨_, rfl, a, T.C_Machine, dx, _, _, rfl, hat, T.cl_Machine, T.n_Machine_own_rows, rfl, r, xs, rfl, hS', _, _, rfl, rfl, decide (i < (R.length : Int)), ?_, ?_⟩
        · exact congrArg V.bl (by show decide (i < (xs.length : Int)) = _; rw [hl])
        · by_cases h1 : i < (R.length : Int)
          · exact ite_f (by simp [h1]) (q (decide_eq_true ⟨h0, h1⟩))
          · refine ite_t (by simp [h1]) ⟨_, rfl, _, rfl, fun e ne => ?_⟩
            exact qE (decide_eq_false fun z => h1 z.2) _ e (same_upd ne) upd_same
      · refine ⟨_, rfl, _, _, rfl, rfl, _, rfl, ite_f (decide_eq_false h0) ?_⟩
        first
          | exact ⟨_, rfl, ite_t rfl ⟨_, rfl, _, rfl, fun e ne => qE (decide_eq_false fun z => h0 z.1) _ e (same_upd ne) upd_same⟩⟩
          | exact ite_t (by simp) ⟨_, rfl, _, rfl, fun e ne => qE (decide_eq_false fun z => h0 z.1) _ e (same_upd ne) upd_same⟩
    · have e0 : isPlaceD R.length d = false := by cases d <;> first | rfl | exact absurd ⟨_, rfl⟩ hs
      have e1 : isIntD d = false := by cases d <;> first | rfl | exact absurd ⟨_, rfl⟩ hs
      refine ⟨_, rfl, v, d, rfl, hd, false, congrArg V.bl e1, iteT ⟨_, rfl, _, rfl, fun e ne => ?_⟩⟩
      exact qE e0 _ e (same_upd ne) upd_same
end
end Lw
namespace Lw
open PySem PySem.Spec PyProof.Rows L3
open L2 hiding del del_same del_ne
section
variable {w : World} {K : PySem.W.Frag} {mg : Str → Option Value} {base : Heap}
def spRedirA (K : PySem.W.Frag) (C Cp Cl Ce : Addr) : Sp := fun vs H Q E => ∃ (a : Addr) (v1 v2 v3 : V) (d1 d2 d3 : PyData) (sg : List Nat) (R : List (List Nat)) (k : List Bool), vs = [.ref a, v1, v2, v3] ∧ Mach C K H a sg R k ∧ DpD K H v1 d1 ∧ DpD K H v2 d2 ∧ DpD K H v3 d3 ∧ shortD d2 ∧
  ((isPlaceD R.length d1 = false ∧ Rz Cp "value" v1 H E) ∨
   (isPlaceD R.length d1 = true ∧ isLetterD sg d2 = false ∧ Rz Cl "value" v2 H E) ∨
   (isPlaceD R.length d1 = true ∧ isLetterD sg d2 = true ∧ isPlaceD R.length d3 = false ∧ Rz Cp "value" v3 H E) ∨
   (∃ p c g : Nat, d1 = .int (p : Int) ∧ d2 = .str (tS [c]) ∧ d3 = .int (g : Int) ∧ p < R.length ∧ c ∈ sg ∧ g < R.length ∧
     (M14.Good sg.length (M74.rd R p (sg.idxOf c) g) k → NewM K C H Q sg (M74.rd R p (sg.idxOf c) g) k) ∧
     (∀ p', p' < R.length → p' ∉ M14.met (M74.rd R p (sg.idxOf c) g) 0 → (∀ j, j < p' → j ∈ M14.met (M74.rd R p (sg.idxOf c) g) 0) → Rz Ce "place" (.int (p' : Int)) H E)))
theorem isPlace_nat {n p : Nat} (h : p < n) : isPlaceD n (.int (p : Int)) = true := by
  show decide ((0 : Int) ≤ (p : Int) ∧ (p : Int) < (n : Int)) = true
  exact decide_eq_true (by omega)
theorem isLetter_one {sg : List Nat} {c : Nat} (h : c ∈ sg) : isLetterD sg (.str (tS [c])) = true := by
  show (([c].all fun c => decide (c ∈ sg)) && decide ([c].length = 1)) = true
  simp [h]
theorem ok_redirectedA (T : All K mg) : FnOk PW w K mg base (L2.CX PW w) 6 T.f_redirected T.d_redirected ["machine", "place", "letter", "goal"] (spRedirA K T.C_Machine T.C_InvalidPlace T.C_InvalidLetter T.C_NotComeTo) := by
  refine T.redirected.F.okX sc_redirected (fun vs H Q E h => ?_) (fun cdv A outer s H vs Q E hr h => ?_)
  · obtain ⟨a, v1, v2, v3, d1, d2, d3, sg, R, k, rfl, _⟩ := h
    rfl
  · obtain ⟨a, v1, v2, v3, d1, d2, d3, sg, R, k, rfl, hM, hd1, hd2, hd3, hz, h⟩ := h
    obtain ⟨dx, r, qq, hat, hr1, hk1⟩ := hM.at_
    have hGd := hM.good
    have hfew := hGd.few
    have hkin := hGd.kin
    have hsl := hM.lets.few
    refine ⟨_, pss_cons (ps_expr (pe_call (ok_want_placeA T) (hr.mono (by decide)) (by rfl) T.want_place.g T.want_place.F.kp T.want_place.b .nil (passes_call (takes_of rfl rfl rfl rfl) (fun _ _ _ _ h => h)) (pa_cons (pv 0) (pa_cons (pv 1) pa_nil))))
      (pss_cons (ps_expr (pe_call (ok_want_letterA T) (hr.mono (by decide)) (by rfl) T.want_letter.g T.want_letter.F.kp T.want_letter.b .nil (passes_call (takes_of rfl rfl rfl rfl) (fun _ _ _ _ h => h)) (pa_cons (pe_fld (pv 0) rfl) (pa_cons (pv 2) pa_nil))))
      (pss_cons (ps_expr (pe_call (ok_want_placeA T) (hr.mono (by decide)) (by rfl) T.want_place.g T.want_place.F.kp T.want_place.b .nil (passes_call (takes_of rfl rfl rfl rfl) (fun _ _ _ _ h => h)) (pa_cons (pv 0) (pa_cons (pv 3) pa_nil))))
      (pss_cons (ps_set (i := 4) sc_redirected.nd rfl (by first | exact Or.inl rfl | exact Or.inr rfl) (pe_call (ok_lists_of T) (hr.mono (by decide)) (by rfl) T.lists_of.g T.lists_of.F.kp T.lists_of.b .nil pass0 (pa_cons (pe_fld (pv 0) rfl) pa_nil)))
      (pss_cons (ps_asg (pv 3) (pg_sub (pe_ix ix_list (pv 4) (pv 1) (fun _ _ => rfl)) (pe_bm PySem.F.plainAttrs_str PySem.F.slot_str_index PySem.F.type_str_index mt_indexT (pe_fld (pv 0) rfl) (pa_cons (pv 2) pa_nil)) set_list))
      (pss_one (ps_ret (pe_make ⟨T.mk_Machine, T.Machine_init.m.at_, T.Machine_init.m.fn, T.kp_Machine⟩ (ok_Machine_initX T) (hr.mono (by decide)) (by rfl) T.g_Machine T.Machine_init.b .nil (passes_call (takes_of rfl rfl rfl rfl) (fun _ _ _ _ h => h)) (pa_cons (pe_fld (pv 0) rfl) (pa_cons (pv 4) (pa_cons (pe_callTy call_list_of (by rfl) T.b_list PyProof.Rows.boot_list (pa_cons (pe_fld (pv 0) rfl) pa_nil)) pa_nil)))))))))), ?_⟩
    try dsimp only [cxOf]
    refine ⟨_, rfl, _, rfl, a, v1, d1, sg, R, k, rfl, hM, hd1, fun h1 => ?_, fun h1 => ?_⟩
    rotate_left
    · rcases h with ⟨_, hE⟩ | ⟨z, _⟩ | ⟨z, _⟩ | ⟨p, c, g, rfl, _, _, hp, _⟩
      · exact hE
      · rw [h1] at z; cases z
      · rw [h1] at z; cases z
      · rw [isPlace_nat hp] at h1; cases h1
    refine ⟨_, rfl, a, T.C_Machine, dx, _, _, rfl, hat, T.cl_Machine, T.n_Machine_own_letters, rfl, _, rfl, sg, v2, d2, rfl, hd2, hz, fun h2 H1 s1 => ?_, fun h2 => ?_⟩
    rotate_left
    · rcases h with ⟨z, _⟩ | ⟨_, _, hE⟩ | ⟨_, z, _⟩ | ⟨p, c, g, _, rfl, _, _, hc, _⟩
      · rw [h1] at z; cases z
      · exact hE
      · rw [h2] at z; cases z
      · rw [isLetter_one hc] at h2; cases h2
    refine ⟨_, rfl, _, rfl, a, v3, d3, sg, R, k, rfl, hM.same s1, dpd_same hd3 s1, fun h3 => ?_, fun h3 => ?_⟩
    rotate_left
    · rcases h with ⟨z, _⟩ | ⟨_, z, _⟩ | ⟨_, _, _, hE⟩ | ⟨p, c, g, _, _, rfl, _, _, hg, _⟩
      · rw [h1] at z; cases z
      · rw [h2] at z; cases z
      · exact hE.same s1
      · rw [isPlace_nat hg] at h3; cases h3
    have h := ((h.resolve_left fun z => Bool.noConfusion (h1.symm.trans z.1)).resolve_left fun z => Bool.noConfusion (h2.symm.trans z.2.1)).resolve_left fun z => Bool.noConfusion (h3.symm.trans z.2.2.1)
    obtain ⟨p, c, g, rfl, rfl, rfl, hp, hc, hg, q, qE⟩ := h
    cases hd1.int_inv
    cases hd2.str_inv
    cases hd3.int_inv
    refine ⟨_, rfl, a, T.C_Machine, dx, _, _, rfl, s1 _ _ hat, T.cl_Machine, T.n_Machine_own_rows, rfl, r, R, rfl, Dp.same s1 hr1, hfew, fun H2 D s2 nD hN => ?_⟩
    have s02 := s1.trans s2
    obtain ⟨xs, q0, hDx, hx0, hq0, nq, nqD, hput⟩ := hN.put hp
    have nq0 := s1.free nq
    have nD0 := s1.free nD
    have hrl : (M14.row R p).length = sg.length := hGd.len _ (M14.row_mem hp)
    have hi : sg.idxOf c < sg.length := List.idxOf_lt_length_of_mem hc
    have hixn : ixN (nV (M14.row R p)).length ((sg.idxOf c : Nat) : Int) = some (sg.idxOf c) := by
      unfold ixN
      rw [if_pos (by omega), nV_len, hrl, if_pos (by omega)]
      rfl
    refine ⟨_, rfl, _, rfl, _, rfl, D, xs, ((p : Nat) : Int), .ref q0, rfl, rfl, .inl (.inl hDx), atI_nat hx0, ?_⟩
    refine ⟨_, rfl, a, T.C_Machine, dx, _, _, rfl, s02 _ _ hat, T.cl_Machine, T.n_Machine_own_letters, rfl, ?_⟩
    refine ⟨rfl, _, rfl, sg, c, rfl, rfl, hc, q0, _, _, _, rfl, rfl, hq0, hixn, ?_⟩
    rw [nV_set]
    have hN2 := hput (sg.idxOf c) g
    have s03 : Same H (upd H2 q0 (.lst (nV ((M14.row R p).set (sg.idxOf c) g)))) := same_up s02 nq0
    generalize upd H2 q0 (.lst (nV ((M14.row R p).set (sg.idxOf c) g))) = H3 at *
    refine ⟨_, rfl, a, T.C_Machine, dx, _, _, rfl, s03 _ _ hat, T.cl_Machine, T.n_Machine_own_letters, rfl, _, rfl, ?_⟩
    refine ⟨_, rfl, a, T.C_Machine, dx, _, _, rfl, s03 _ _ hat, T.cl_Machine, T.n_Machine_own_kinds, rfl, qq, _, rfl, .inr (sqT_same hk1 s03), fun l nl => ?_⟩
    have s04 := same_up (o := .lst (k.map V.bl)) s03 (s03.free nl)
    intro x dx' nx ndx _
    have sU := same_up (o := .ins T.C_Machine dx' []) (same_upd (o := .own x) ndx) nx
    have hSh := M74.rd_sht (a := sg.idxOf c) hGd.toSht hp hg
    refine ⟨x, dx', sg, _, _, _, k, rfl, upd_same, hM.lets, (rw_dLR ((hN2.same (same_upd nl)).one.dp)).same sU, (sq_list (.inl (.inl upd_same))).same sU, hSh, fun hGood H' hk' hM' => ?_, fun p' hp' hno hal H' d sm hd => ?_⟩
    · have e := Same.made nx ndx hk'
      exact ⟨rfl, q hGood _ _ (s04.trans e) (s04.free nx) hM'⟩
    · rw [M74.rd_len] at hp'
      exact qE p' hp' hno hal _ d ((s04.trans sU).trans sm) hd
end
end Lw
namespace Lw
open PySem PySem.Spec PyProof.Rows L3
open L2 hiding del del_same del_ne
section
variable {P : Program} {w : World} {K : PySem.W.Frag} {mg : Str → Option Value} {base : Heap}
def spTakes (K : PySem.W.Frag) (C : Addr) : Sp := fun vs H Q _ => ∃ (a : Addr) (t sg : List Nat) (R : List (List Nat)) (k : List Bool), vs = [.ref a, tx t] ∧ Mach C K H a sg R k ∧ t.length ≤ 1000 ∧ (∀ c ∈ t, c ∈ sg) ∧ ∀ H', Same H H' → Q (.bl (M14.kAt k (M14.led sg R 0 t))) H'
theorem ok_Machine_takes (T : All K mg) : FnOk P w K mg base CX0 3 T.f_Machine_takes T.d_Machine_takes ["self", "text"] (spTakes K T.C_Machine) := by
  refine T.Machine_takes.F.ok sc_Machine_takes (fun vs H Q E h => ?_) (fun cdv A outer s H vs Q E hr h => ?_)
  · obtain ⟨a, t, sg, R, k, rfl, _⟩ := h
    rfl
  · obtain ⟨a, t, sg, R, k, rfl, hM, hz, ht, q⟩ := h
    obtain ⟨dx, r, qq, hat, hr1, hk1⟩ := hM.at_
    refine ⟨_, pss_cons (ps_expr (pe_call (ok_want_text T) (hr.mono (by decide)) (by rfl) T.want_text.g T.want_text.F.kp T.want_text.b .nil pass0 (pa_cons (pe_fld (pv 0) rfl) (pa_cons (pv 1) pa_nil))))
      (pss_one (ps_ret (pe_call (ok_is_taken T) (hr.mono (by decide)) (by rfl) T.is_taken.g T.is_taken.F.kp T.is_taken.b .nil pass0 (pa_cons (pv 0) (pa_cons (pv 1) pa_nil))))), ?_⟩
    refine ⟨_, rfl, a, T.C_Machine, dx, _, _, rfl, hat, T.cl_Machine, T.n_Machine_own_letters, rfl, _, rfl, sg, t, rfl, hz, ht, fun H1 s1 => ?_⟩
    exact ⟨_, rfl, _, rfl, a, t, sg, R, k, rfl, hM.same s1, ht, q _ s1⟩
end
end Lw
namespace Lw
open PySem PySem.Spec PyProof.Rows L3
open L2 hiding del del_same del_ne
theorem Lets.nd {sg : List Nat} (h : Lets sg) : sg.Nodup := h.up.imp fun h => Nat.ne_of_lt h
theorem gTup2_mono {K : PySem.W.Frag} {i j : Nat} : ∀ x σ H (Q Q' : L2.St → Hp → Prop), (∀ σ2 H2, Q σ2 H2 → Q' σ2 H2) → gTup K 2 (gCons (gName i) (gCons (gName j) gNil)) x σ H Q → gTup K 2 (gCons (gName i) (gCons (gName j) gNil)) x σ H Q' := by
  intro x σ H Q Q' q h
  obtain ⟨a, xs, e, hs, hl, v, vs, e1, w, ws, e2, e3, h⟩ := h
  exact ⟨a, xs, e, hs, hl, v, vs, e1, w, ws, e2, e3, q _ _ h⟩
section
variable {P : Program} {w : World} {K : PySem.W.Frag} {mg : Str → Option Value} {base : Heap}
/-- the three rules -/
inductive IsRule : Str → (Bool → Bool → Bool) → Prop
  | both : IsRule "both" and
  | either : IsRule "either" or
  | first : IsRule "first" (fun a b => a && !b)
def spIsSo : Sp := fun vs H Q _ => ∃ (r : Str) (f : Bool → Bool → Bool) (x y : Bool), vs = [.str r, .bl x, .bl y] ∧ IsRule r f ∧ Q (.bl (f x y)) H
theorem ok_is_so (T : All K mg) : FnOk P w K mg base CX0 1 T.f_is_so T.d_is_so ["rule", "one", "other"] spIsSo := by
  refine T.is_so.F.ok sc_is_so (fun vs H Q E h => ?_) (fun cdv A outer s H vs Q E hr h => ?_)
  · obtain ⟨r, f, x, y, rfl, _⟩ := h
    rfl
  · obtain ⟨r, f, x, y, rfl, hf, q⟩ := h
    refine ⟨_, pss_cons (ps_if (pt_cmpR op_eq (pv 0) pe_str (nomark _)) (pss_one (ps_ret (pe_and (pv 1)
        (pe_one (pv 2))))) pss_nil)
      (pss_one (ps_ret (pe_ifExp (pt_cmpR op_eq (pv 0) pe_str (nomark _)) (pe_or (pv 1)
        (pe_one (pv 2))) (pe_and (pv 1)
        (pe_one (pe_not (pv 2))))))), ?_⟩
    cases hf with
    | both =>
      refine ⟨_, rfl, rfl, _, rfl, ite_t (by decide +kernel) ?_⟩
      cases x
      · exact ⟨_, rfl, _, rfl, q⟩
      · exact ⟨_, rfl, _, rfl, _, rfl, q⟩
    | either =>
      refine ⟨_, rfl, rfl, _, rfl, ite_f (by decide +kernel) ?_⟩
      refine ⟨_, rfl, rfl, _, rfl, ite_t (by decide +kernel) ?_⟩
      cases x
      · exact ⟨_, rfl, _, rfl, _, rfl, q⟩
      · exact ⟨_, rfl, _, rfl, q⟩
    | first =>
      refine ⟨_, rfl, rfl, _, rfl, ite_f (by decide +kernel) ?_⟩
      refine ⟨_, rfl, rfl, _, rfl, ite_f (by decide +kernel) ?_⟩
      cases x
      · exact ⟨_, rfl, _, rfl, q⟩
      · exact ⟨_, rfl, _, rfl, _, rfl, _, rfl, q⟩
end
end Lw
namespace L3
open PySem PySem.Spec PyProof.Rows L2
section
variable {prog : Program} {w : World} {A : Around} {E : Value → Shared → Prop} {s : Shared} {z TI TO T i1 i2 : Addr} {f : Bool} {oT : Obj} {fp1 fp2 : List Addr} {n1 n2 i : Nat} {P1 P2 : Nat → Value → Prop} {St1 St2 : Nat → Heap → Prop}
theorem lz_next_item {Q : Value → Shared → Prop} (S : ZipSep2 z TI TO i1 i2 fp1 fp2) (D1 : Draws prog w A i1 fp1 n1 P1 St1) (D2 : Draws prog w A i2 fp2 n2 P2 St2)
    (hz : IsZipHeld s.heap z TI TO T f) (hT : s.heap.get? T = some oT) (hTI : IsTupOf2 s.heap TI (.ref i1) (.ref i2)) (st1 : St1 i s.heap) (st2 : St2 i s.heap) (hlt1 : i < n1) (hlt2 : i < n2)
    (hQ : ∀ x1 x2 h' tk, P1 i x1 → P2 i x2 → IsZipHeld h' z TI TO T true → St1 (i + 1) h' → St2 (i + 1) h' → IsTupOf2 h' s.heap.objs.size x1 x2 → h'.objs.size = s.heap.objs.size + 1 →
      (∀ c o, c ≠ z → c ≠ TO → c ≠ i1 → c ≠ i2 → s.heap.get? c = some o → h'.get? c = some o) → (∀ a b, IsTupOf2 s.heap TO a b → ∃ a b, IsTupOf2 h' TO a b) → Q (.ref s.heap.objs.size) { s with heap := h', toks := tk }) :
    wpAny (model prog w) A (Builtin.«zip.__next__» ⟨[.ref z], []⟩) (fun fin s' => ∃ v, fin = .done (.ret v) ∧ Q v s') E s := by
  obtain ⟨hp, g, d, tk0, os⟩ := s
  show wpAny _ _ (field (.ref z) 2 >>= _) _ _ _
  refine wpAny_bind (wpAny_field hz rfl (x := .bool false) rfl ?_)
  show wpAny _ _ (field (.ref z) 3 >>= _) _ _ _
  refine wpAny_bind (wpAny_field hz rfl (x := .ref TI) rfl ?_)
  refine wpAny_bind (wpAny_seqItems hTI rfl ?_)
  show wpAny _ _ (Builtin.SmallTypes.ownedTupleIsFree (.ref z) >>= _) _ _ _
  refine wpAny_bind (wpAny_tupleHeld_zip hz hT fun g0 hz0 hs0 => ?_)
  replace hs0 : Heap.SameBut z hp g0 := hs0
  simp only [Bool.false_eq_true, if_false]
  refine wpAny_bind ?_
  rw [← Array.forIn_toList]
  simp only [List.forIn_cons, List.forIn_nil]
  refine wpAny_bind (wpAny_bind (wpAny_holding ?_))
  show wpAny _ _ (Builtin.SmallTypes.nextOf (.ref i1) >>= _) _ _ ⟨g0, g, d, tk0, os⟩
  refine wpAny_bind (D1.item i _ _ _ hlt1 (D1.over st1 hs0 S.zf1) fun x1 p1 tk1 hx1 sn1 hp1 => wpAny_pure ?_)
  replace hp1 : Heap.SameBut i1 g0 p1 := hp1
  refine wpAny_pure ?_
  refine wpAny_bind (wpAny_bind (wpAny_holding ?_))
  show wpAny _ _ (Builtin.SmallTypes.nextOf (.ref i2) >>= _) _ _ ⟨p1, g, d, tk1, os⟩
  refine wpAny_bind (D2.item i _ _ _ hlt2 (D2.over (D2.over st2 hs0 S.zf2) hp1 S.sep1_2) fun x2 p2 tk2 hx2 sn2 hp2 => wpAny_pure ?_)
  replace hp2 : Heap.SameBut i2 p1 p2 := hp2
  refine wpAny_pure (wpAny_pure ?_)
  show wpAny _ _ (newTuple [x1, x2] >>= _) _ _ _
  refine wpAny_bind (wpAny_newTuple ?_)
  have hsz : p2.objs.size = hp.objs.size := by rw [hp2.1, hp1.1, hs0.1]
  have hzz : IsZipHeld p2 z TI TO T true := hp2.extBut _ _ S.zi2 (hp1.extBut _ _ S.zi1 hz0)
  have hkk : ∀ c o, c ≠ z → c ≠ TO → c ≠ i1 → c ≠ i2 → hp.get? c = some o → p2.get? c = some o := fun c o cz cT c1 c2 e => hp2.extBut _ _ c2 (hp1.extBut _ _ c1 (hs0.extBut _ _ cz e))
  have hj1 : St1 (i + 1) p2 := D1.over sn1 hp2 S.sep2_1
  have grow : ∀ c o, p2.get? c = some o → (p2.push { cls := .type "tuple", data := .seq #[x1, x2] }).get? c = some o := fun c o e => Heap.get?_push_of_some _ e
  refine wpAny_pure ⟨_, rfl, ?_⟩
  show Q (.ref p2.objs.size) _
  have hpp : IsTupOf2 (p2.push { cls := .type "tuple", data := .seq #[x1, x2] }) p2.objs.size x1 x2 := Heap.get?_push_size _ rfl
  have hz4 : (p2.push { cls := .type "tuple", data := .seq #[x1, x2] }).objs.size = p2.objs.size + 1 := Heap.size_push ..
  rw [hsz] at hpp hz4 ⊢
  exact hQ x1 x2 _ tk2 hx1 hx2 (grow _ _ hzz) (D1.frame _ _ _ hj1 fun c _ o e => grow c o e) (D2.frame _ _ _ sn2 fun c _ o e => grow c o e) hpp hz4 (fun c o cz cT c1 c2 e => grow c o (hkk c o cz cT c1 c2 e)) fun a b e => ⟨a, b, grow _ _ (hp2.extBut _ _ S.Ti2 (hp1.extBut _ _ S.Ti1 (hs0.extBut _ _ S.TOz e)))⟩
theorem lz_next_end {Q : Fin → Shared → Prop} (S : ZipSep2 z TI TO i1 i2 fp1 fp2) (D1 : Draws prog w A i1 fp1 n1 P1 St1) 
    (hz : IsZipHeld s.heap z TI TO T f) (hT : s.heap.get? T = some oT) (hTI : IsTupOf2 s.heap TI (.ref i1) (.ref i2)) (st1 : St1 n1 s.heap)
    (hE : ∀ h' e tk, (∀ c o, c ≠ z → c ≠ TO → c ≠ i1 → c ≠ i2 → s.heap.get? c = some o → h'.get? c = some o) → (∃ o, h'.get? e = some o ∧ o.cls = .type "StopIteration") → E (.ref e) { s with heap := h', toks := tk }) :
    wpAny (model prog w) A (Builtin.«zip.__next__» ⟨[.ref z], []⟩) Q E s := by
  obtain ⟨hp, g, d, tk0, os⟩ := s
  show wpAny _ _ (field (.ref z) 2 >>= _) _ _ _
  refine wpAny_bind (wpAny_field hz rfl (x := .bool false) rfl ?_)
  show wpAny _ _ (field (.ref z) 3 >>= _) _ _ _
  refine wpAny_bind (wpAny_field hz rfl (x := .ref TI) rfl ?_)
  refine wpAny_bind (wpAny_seqItems hTI rfl ?_)
  show wpAny _ _ (Builtin.SmallTypes.ownedTupleIsFree (.ref z) >>= _) _ _ _
  refine wpAny_bind (wpAny_tupleHeld_zip hz hT fun g0 hz0 hs0 => ?_)
  replace hs0 : Heap.SameBut z hp g0 := hs0
  simp only [Bool.false_eq_true, if_false]
  refine wpAny_bind ?_
  rw [← Array.forIn_toList]
  simp only [List.forIn_cons, List.forIn_nil]
  refine wpAny_bind (wpAny_bind (wpAny_holding ?_))
  show wpAny _ _ (Builtin.SmallTypes.nextOf (.ref i1) >>= _) _ _ ⟨g0, g, d, tk0, os⟩
  refine wpAny_bind (D1.done ⟨g0, g, d, tk0, os⟩ _ _ (D1.over st1 hs0 S.zf1) fun q e hq he => ?_)
  replace hq : Heap.ExtBut i1 g0 q := hq
  exact hE q e tk0 (fun c o cz cT c1 c2 x => hq _ _ c1 (hs0.extBut _ _ cz x)) he
end
end L3
namespace L3
open PySem PySem.Spec PyProof.Rows L2
end L3
namespace L3
open PySem PySem.Spec PyProof.Rows L2
section
variable {prog : Program} {w : World} {A : Around} {E : Value → Shared → Prop} {s : Shared} {z TI TO T i1 i2 : Addr} {f : Bool} {fp1 fp2 : List Addr} {n1 n2 i : Nat} {P1 P2 : Nat → Value → Prop} {St1 St2 : Nat → Heap → Prop} {a1 a2 : Value}
/-- the zip object with any first two fields -/
abbrev ZipO (h : Heap) (z TI TO : Addr) (v0 : Value) (f : Bool) : Prop := h.get? z = some { cls := .type "zip", dict := none, data := .fields #[v0, .bool f, .bool false, .ref TI, .ref TO], slots := #[] }
theorem gone_of {a : Addr} {Q : Option Obj → Shared → Prop} (ho : s.heap.get? a = none) (h : Q none s) : wpAny (model prog w) A (loadIfAlive a) Q E s := by
  rw [← ho] at h
  exact fun _ _ _ => h
theorem zn_free {Q : Bool → Shared → Prop} (hz : ZipO s.heap z TI TO (rawInt T) f) (hT : s.heap.get? T = none) (h : Q true s) : wpAny (model prog w) A (Builtin.SmallTypes.ownedTupleIsFree (.ref z)) Q E s := by
  unfold Builtin.SmallTypes.ownedTupleIsFree
  refine wpAny_bind (wpAny_field hz rfl (x := rawInt T) rfl ?_)
  show wpAny _ _ (loadIfAlive ((T : Int).toNat) >>= _) _ _ _
  rw [Int.toNat_natCast]
  exact wpAny_bind (gone_of hT (wpAny_pure h))
/-- the tuple that was handed out is gone: the zip's own one is made anew -/
theorem zn_next {Q : Value → Shared → Prop} (S : ZipSep2 z TI TO i1 i2 fp1 fp2) (D1 : Draws prog w A i1 fp1 n1 P1 St1) (D2 : Draws prog w A i2 fp2 n2 P2 St2)
    (hz : ZipO s.heap z TI TO (rawInt T) f) (hT : s.heap.get? T = none) (hTI : IsTupOf2 s.heap TI (.ref i1) (.ref i2)) (hTO : IsTupOf2 s.heap TO a1 a2) (st1 : St1 i s.heap) (st2 : St2 i s.heap) (hlt1 : i < n1) (hlt2 : i < n2)
    (hQ : ∀ x1 x2 h' tk, P1 i x1 → P2 i x2 → ZipO h' z TI TO (rawInt s.heap.objs.size) false → IsTupOf2 h' TO x1 x2 → St1 (i + 1) h' → St2 (i + 1) h' → IsTupOf2 h' s.heap.objs.size x1 x2 → h'.objs.size = s.heap.objs.size + 1 →
      (∀ c o, c ≠ z → c ≠ TO → c ≠ i1 → c ≠ i2 → s.heap.get? c = some o → h'.get? c = some o) → Q (.ref s.heap.objs.size) { s with heap := h', toks := tk }) :
    wpAny (model prog w) A (Builtin.«zip.__next__» ⟨[.ref z], []⟩) (fun fin s' => ∃ v, fin = .done (.ret v) ∧ Q v s') E s := by
  obtain ⟨m0, gs, dr, t0, os⟩ := s
  show wpAny _ _ (field (.ref z) 2 >>= _) _ _ _
  refine wpAny_bind (wpAny_field hz rfl (x := .bool false) rfl ?_)
  show wpAny _ _ (field (.ref z) 3 >>= _) _ _ _
  refine wpAny_bind (wpAny_field hz rfl (x := .ref TI) rfl ?_)
  refine wpAny_bind (wpAny_seqItems hTI rfl ?_)
  refine wpAny_bind (zn_free hz hT ?_)
  simp only [if_true]
  refine wpAny_bind (wpAny_rule ?_)
  refine wpAny_bind (wpAny_field hz rfl (x := .ref TO) rfl ?_)
  refine wpAny_bind (wpAny_setField_rec hz (by simp) fun m1 z1 k1 => ?_)
  replace z1 : ZipO m1 z TI TO .ellipsis f := z1
  replace k1 : Heap.SameBut z m0 m1 := k1
  refine wpAny_bind ?_
  simp only [List.zipIdx_cons, List.zipIdx_nil, List.forIn_cons, List.forIn_nil]
  refine wpAny_bind (wpAny_bind (wpAny_onRaise ?_))
  show wpAny _ _ (Builtin.SmallTypes.nextOf (.ref i1) >>= _) _ _ ⟨m1, gs, dr, t0, os⟩
  refine wpAny_bind (D1.item i _ _ _ hlt1 (D1.over st1 k1 S.zf1) fun x1 m2 t1 q1 sn1 k2 => wpAny_pure ?_)
  replace k2 : Heap.SameBut i1 m1 m2 := k2
  have o2 : IsTupOf2 m2 TO a1 a2 := k2.extBut _ _ S.Ti1 (k1.extBut _ _ S.TOz hTO)
  refine wpAny_bind (wpAny_seqItems (s := ⟨m2, gs, dr, t1, os⟩) o2 rfl ?_)
  refine wpAny_bind (updateSeq_IsTupOf2 (s := ⟨m2, gs, dr, t1, os⟩) o2 fun m3 o3 k3 => ?_)
  replace o3 : IsTupOf2 m3 TO x1 a2 := o3
  replace k3 : Heap.SameBut TO m2 m3 := k3
  refine wpAny_bind (wpAny_letGo (wpAny_pure ?_))
  refine wpAny_bind (wpAny_bind (wpAny_onRaise ?_))
  show wpAny _ _ (Builtin.SmallTypes.nextOf (.ref i2) >>= _) _ _ ⟨m3, gs, dr, t1, os⟩
  refine wpAny_bind (D2.item i _ _ _ hlt2 (D2.over (D2.over (D2.over st2 k1 S.zf2) k2 S.sep1_2) k3 S.Tf2) fun x2 m4 t2 q2 sn2 k4 => wpAny_pure ?_)
  replace k4 : Heap.SameBut i2 m3 m4 := k4
  have o4 : IsTupOf2 m4 TO x1 a2 := k4.extBut _ _ S.Ti2 o3
  refine wpAny_bind (wpAny_seqItems (s := ⟨m4, gs, dr, t2, os⟩) o4 rfl ?_)
  refine wpAny_bind (updateSeq_IsTupOf2 (s := ⟨m4, gs, dr, t2, os⟩) o4 fun m5 o5 k5 => ?_)
  replace o5 : IsTupOf2 m5 TO x1 x2 := o5
  replace k5 : Heap.SameBut TO m4 m5 := k5
  refine wpAny_bind (wpAny_letGo (wpAny_pure (wpAny_pure ?_)))
  refine wpAny_bind (wpAny_seqItems (s := ⟨m5, gs, dr, t2, os⟩) o5 rfl ?_)
  refine wpAny_bind (wpAny_newTuple ?_)
  have hsz : m5.objs.size = m0.objs.size := by rw [k5.1, k4.1, k3.1, k2.1, k1.1]
  have z5 : ZipO m5 z TI TO .ellipsis f := k5.extBut _ _ S.TOz.symm (k4.extBut _ _ S.zi2 (k3.extBut _ _ S.TOz.symm (k2.extBut _ _ S.zi1 z1)))
  have zl : z < m5.objs.size := Heap.lt_size z5
  have all : ∀ c o, c ≠ z → c ≠ TO → c ≠ i1 → c ≠ i2 → m0.get? c = some o → m5.get? c = some o := fun c o n1 n2 n3 n4 e => k5.extBut _ _ n2 (k4.extBut _ _ n4 (k3.extBut _ _ n2 (k2.extBut _ _ n3 (k1.extBut _ _ n1 e))))
  have j1 : St1 (i + 1) m5 := D1.over (D1.over (D1.over sn1 k3 S.Tf1) k4 S.sep2_1) k5 S.Tf1
  have j2 : St2 (i + 1) m5 := D2.over sn2 k5 S.Tf2
  show wpAny _ _ (Builtin.SmallTypes.ownedTupleHandOut (.ref z) (.ref m5.objs.size) >>= _) _ _ ⟨m5.push { cls := .type "tuple", data := .seq #[x1, x2] }, gs, dr, t2, os⟩
  refine wpAny_bind ?_
  unfold Builtin.SmallTypes.ownedTupleHandOut
  have z6 : ZipO (m5.push { cls := .type "tuple", data := .seq #[x1, x2] }) z TI TO .ellipsis f := Heap.get?_push_of_some _ z5
  refine wpAny_bind (wpAny_setField_rec z6 (by simp) fun m7 z7 k7 => ?_)
  replace z7 : ZipO m7 z TI TO (rawInt m5.objs.size) f := z7
  refine wpAny_setField_rec z7 (by simp) fun m8 z8 k8 => ?_
  replace z8 : ZipO m8 z TI TO (rawInt m5.objs.size) false := z8
  replace k7 : Heap.SameBut z (m5.push { cls := .type "tuple", data := .seq #[x1, x2] }) m7 := k7
  replace k8 : Heap.SameBut z m7 m8 := k8
  have up : ∀ c o, c ≠ z → m5.get? c = some o → m8.get? c = some o := fun c o n e => k8.extBut _ _ n (k7.extBut _ _ n (Heap.get?_push_of_some _ e))
  have T8 : IsTupOf2 m8 m5.objs.size x1 x2 := k8.extBut _ _ (Nat.ne_of_gt zl) (k7.extBut _ _ (Nat.ne_of_gt zl) (Heap.get?_push_size _ rfl))
  have s8 : m8.objs.size = m5.objs.size + 1 := by rw [k8.1, k7.1, Heap.size_push]
  rw [hsz] at z8 T8 s8
  refine wpAny_pure ⟨_, rfl, ?_⟩
  show Q (.ref m5.objs.size) ⟨m8, gs, dr, t2, os⟩
  rw [hsz]
  exact hQ x1 x2 m8 t2 q1 q2 z8 (up _ _ S.TOz o5) (D1.frame _ _ _ j1 fun b hb o e => up b o (fun q => S.zf1 (q ▸ hb)) e) (D2.frame _ _ _ j2 fun b hb o e => up b o (fun q => S.zf2 (q ▸ hb)) e) T8 s8 fun c o n1 n2 n3 n4 e => up c o n1 (all c o n1 n2 n3 n4 e)
theorem zn_stop {Q : Fin → Shared → Prop} (S : ZipSep2 z TI TO i1 i2 fp1 fp2) (D1 : Draws prog w A i1 fp1 n1 P1 St1)
    (hz : ZipO s.heap z TI TO (rawInt T) f) (hT : s.heap.get? T = none) (hTI : IsTupOf2 s.heap TI (.ref i1) (.ref i2)) (st1 : St1 n1 s.heap)
    (hE : ∀ h' e tk, (∀ c o, c ≠ z → c ≠ TO → c ≠ i1 → c ≠ i2 → s.heap.get? c = some o → h'.get? c = some o) → (∃ o, h'.get? e = some o ∧ o.cls = .type "StopIteration") → E (.ref e) { s with heap := h', toks := tk })
    (hTO : IsTupOf2 s.heap TO a1 a2) : wpAny (model prog w) A (Builtin.«zip.__next__» ⟨[.ref z], []⟩) Q E s := by
  obtain ⟨m0, gs, dr, t0, os⟩ := s
  show wpAny _ _ (field (.ref z) 2 >>= _) _ _ _
  refine wpAny_bind (wpAny_field hz rfl (x := .bool false) rfl ?_)
  show wpAny _ _ (field (.ref z) 3 >>= _) _ _ _
  refine wpAny_bind (wpAny_field hz rfl (x := .ref TI) rfl ?_)
  refine wpAny_bind (wpAny_seqItems hTI rfl ?_)
  refine wpAny_bind (zn_free hz hT ?_)
  simp only [if_true]
  refine wpAny_bind (wpAny_rule ?_)
  refine wpAny_bind (wpAny_field hz rfl (x := .ref TO) rfl ?_)
  refine wpAny_bind (wpAny_setField_rec hz (by simp) fun m1 z1 k1 => ?_)
  replace z1 : ZipO m1 z TI TO .ellipsis f := z1
  replace k1 : Heap.SameBut z m0 m1 := k1
  refine wpAny_bind ?_
  simp only [List.zipIdx_cons, List.zipIdx_nil, List.forIn_cons, List.forIn_nil]
  refine wpAny_bind (wpAny_bind (wpAny_onRaise ?_))
  show wpAny _ _ (Builtin.SmallTypes.nextOf (.ref i1) >>= _) _ _ ⟨m1, gs, dr, t0, os⟩
  refine wpAny_bind (D1.done ⟨m1, gs, dr, t0, os⟩ _ _ (D1.over st1 k1 S.zf1) fun m2 e k2 he => ?_)
  replace k2 : Heap.ExtBut i1 m1 m2 := k2
  obtain ⟨oe, hoe, hce⟩ := he
  replace hoe : m2.get? e = some oe := hoe
  have z2 : ZipO m2 z TI TO .ellipsis f := k2 _ _ S.zi1 z1
  have hez : e ≠ z := fun x => by
    rw [x, z2] at hoe
    cases hoe
    simp at hce
  refine wpAny_setField_rec (s := ⟨m2, gs, dr, t0, os⟩) z2 (by simp) fun m3 _ k3 => ?_
  replace k3 : Heap.SameBut z m2 m3 := k3
  exact hE m3 e t0 (fun c o n1 n2 n3 n4 x => k3.extBut _ _ n1 (k2 _ _ n3 (k1.extBut _ _ n1 x))) ⟨oe, k3.extBut _ _ hez hoe, hce⟩
/-- a zip whose pairs are kept, or gone -/
def ZnS (St1 St2 : Nat → Heap → Prop) (z TI TO i1 i2 : Addr) (i : Nat) (h : Heap) : Prop :=
  IsTupOf2 h TI (.ref i1) (.ref i2) ∧ St1 i h ∧ St2 i h ∧ (∃ a b, IsTupOf2 h TO a b) ∧ (ZipO h z TI TO .none false ∨ ∃ (T : Addr) (f : Bool), ZipO h z TI TO (rawInt (T : Nat)) f)
theorem zn_item {Q : Option Value → Shared → Prop} (S : ZipSep2 z TI TO i1 i2 fp1 fp2) (D1 : Draws prog w A.in1 i1 fp1 n1 P1 St1) (D2 : Draws prog w A.in1 i2 fp2 n2 P2 St2)
    (st : ZnS St1 St2 z TI TO i1 i2 i s.heap) (hlt1 : i < n1) (hlt2 : i < n2)
    (hQ : ∀ x1 x2 h' tk, P1 i x1 → P2 i x2 → ZnS St1 St2 z TI TO i1 i2 (i + 1) h' → IsTupOf2 h' s.heap.objs.size x1 x2 → h'.objs.size = s.heap.objs.size + 1 →
      (∀ c o, c ≠ z → c ≠ TO → c ≠ i1 → c ≠ i2 → s.heap.get? c = some o → h'.get? c = some o) → Q (some (.ref s.heap.objs.size)) { s with heap := h', toks := tk }) :
    wpAny (model prog w) A (pyNext (.ref z)) Q E s := by
  obtain ⟨hTI, st1, st2, ⟨a, b, hTO⟩, hz | ⟨T, f, hz⟩⟩ := st
  · exact wpAny_pyNext_zipD2_item S D1 D2 hz hTI hTO st1 st2 hlt1 hlt2 fun x1 x2 h' tk p1 p2 z' TO' s1 s2 hT hsz hk => hQ x1 x2 h' tk p1 p2 ⟨hk _ _ S.TIz S.TITO S.TIi1 S.TIi2 hTI, s1, s2, ⟨_, _, TO'⟩, .inr ⟨_, false, z'⟩⟩ hT hsz hk
  · have hTy : s.TypeIs (.ref z) "zip" := ⟨_, hz, rfl⟩
    unfold pyNext
    cases hT : s.heap.get? T with
    | some oT =>
      refine wpAny_bind (wpAny_attempt (wpAny_callSpecial?_slot (name := Str.ofString "__next__") hTy F.slot_zip_next (wpAny_call_entry F.slot_zip_next hTy F.entry_zip_next
        (lz_next_item S D1 D2 hz hT hTI st1 st2 hlt1 hlt2 fun x1 x2 h' tk p1 p2 z' s1 s2 hTn hsz hk hTO' => wpAny_pure (hQ x1 x2 h' tk p1 p2 ⟨hk _ _ S.TIz S.TITO S.TIi1 S.TIi2 hTI, s1, s2, hTO' _ _ hTO, .inr ⟨T, true, z'⟩⟩ hTn hsz hk)) (F.args_zip_next_1 _))))
    | none =>
      exact wpAny_bind (wpAny_attempt (wpAny_callSpecial?_slot (name := Str.ofString "__next__") hTy F.slot_zip_next (wpAny_call_entry F.slot_zip_next hTy F.entry_zip_next
        (zn_next S D1 D2 hz hT hTI hTO st1 st2 hlt1 hlt2 fun x1 x2 h' tk p1 p2 z' TO' s1 s2 hTn hsz hk => wpAny_pure (hQ x1 x2 h' tk p1 p2 ⟨hk _ _ S.TIz S.TITO S.TIi1 S.TIi2 hTI, s1, s2, ⟨_, _, TO'⟩, .inr ⟨_, false, z'⟩⟩ hTn hsz hk)) (F.args_zip_next_1 _))))
theorem zn_end {Q : Option Value → Shared → Prop} (S : ZipSep2 z TI TO i1 i2 fp1 fp2) (D1 : Draws prog w A.in1 i1 fp1 n1 P1 St1) (D2 : Draws prog w A.in1 i2 fp2 n2 P2 St2) (hle : n1 ≤ n2)
    (st : ZnS St1 St2 z TI TO i1 i2 n1 s.heap)
    (hQ : ∀ h' tk, (∀ c o, c ≠ z → c ≠ TO → c ≠ i1 → c ≠ i2 → s.heap.get? c = some o → h'.get? c = some o) → Q none { s with heap := h', toks := tk }) :
    wpAny (model prog w) A (pyNext (.ref z)) Q E s := by
  obtain ⟨hTI, st1, st2, ⟨a, b, hTO⟩, hz | ⟨T, f, hz⟩⟩ := st
  · exact wpAny_pyNext_zipD2_end S D1 D2 hz hTI hTO st1 st2 (Nat.le_refl _) hle (.inl rfl) hQ
  · have hTy : s.TypeIs (.ref z) "zip" := ⟨_, hz, rfl⟩
    unfold pyNext
    have fin : ∀ h' e tk, (∀ c o, c ≠ z → c ≠ TO → c ≠ i1 → c ≠ i2 → s.heap.get? c = some o → h'.get? c = some o) → (∃ o, h'.get? e = some o ∧ o.cls = .type "StopIteration") →
        wpAny (model prog w) A (isInstance (.ref e) (.type "StopIteration")) (fun b s' => b = true ∧ Q none s') E { s with heap := h', toks := tk } := fun h' e tk hk ⟨o, ho, hc⟩ =>
      wpAny_isInstance (T := "StopIteration") (b := true) ⟨o, ho, hc⟩ isSubtype_stop ⟨rfl, hQ _ _ hk⟩
    cases hT : s.heap.get? T with
    | some oT =>
      refine wpAny_bind (wpAny_attempt (wpAny_callSpecial?_slot (name := Str.ofString "__next__") hTy F.slot_zip_next (wpAny_call_entry F.slot_zip_next hTy F.entry_zip_next (lz_next_end S D1 hz hT hTI st1 fun h' e tk hk he => ?_) (F.args_zip_next_1 _))))
      refine wpAny_bind (wpAny_mono (fin h' e tk hk he) (fun b s' ⟨hb, hq⟩ => ?_) fun _ _ x => x)
      rw [hb]
      exact wpAny_pure hq
    | none =>
      refine wpAny_bind (wpAny_attempt (wpAny_callSpecial?_slot (name := Str.ofString "__next__") hTy F.slot_zip_next (wpAny_call_entry F.slot_zip_next hTy F.entry_zip_next (zn_stop S D1 hz hT hTI st1 (fun h' e tk hk he => ?_) hTO) (F.args_zip_next_1 _))))
      refine wpAny_bind (wpAny_mono (fin h' e tk hk he) (fun b s' ⟨hb, hq⟩ => ?_) fun _ _ x => x)
      rw [hb]
      exact wpAny_pure hq
end
/-- the zip's own field: nothing yet, or the tuple that went out last -/
def ZnZ (h : Heap) (z TI TO : Addr) : Prop := ZipO h z TI TO .none false ∨ ∃ (T : Addr) (f : Bool), ZipO h z TI TO (rawInt (T : Nat)) f
theorem ZnZ.obj {h : Heap} {z TI TO : Addr} (q : ZnZ h z TI TO) : ∃ v0 f, ZipO h z TI TO v0 f := by
  rcases q with q | ⟨T, f, q⟩
  · exact ⟨_, _, q⟩
  · exact ⟨_, _, q⟩
theorem ZnZ.mono {h h' : Heap} {z TI TO : Addr} (q : ZnZ h z TI TO) (k : ∀ o, h.get? z = some o → h'.get? z = some o) : ZnZ h' z TI TO := by
  rcases q with q | ⟨T, f, q⟩
  · exact .inl (k _ q)
  · exact .inr ⟨T, f, k _ q⟩
theorem zn_iter {prog : Program} {w : World} {A : Around} {E : Value → Shared → Prop} {s : Shared} {z TI TO : Addr} {v0 : Value} {f : Bool} {Q : Value → Shared → Prop} (hz : ZipO s.heap z TI TO v0 f) (h : Q (.ref z) s) : wpAny (model prog w) A (pyIter (.ref z)) Q E s := by
  have hT : s.TypeIs (.ref z) "zip" := ⟨_, hz, rfl⟩
  refine wpAny_pyIter_slot hT F.slot_zip_iter (wpAny_call_entry F.slot_zip_iter hT F.entry_zip_iter ?_ (F.args_zip_iter_1 _))
  show wpAny _ _ (ret (.ref z)) _ _ s
  exact wpAny_pure ⟨_, rfl, "zip", _, hT, F.slot_zip_next.lookup, h⟩
/-- the first is drawn out first -/
def ItZN (K : PySem.W.Frag) (y z : Src) : It :=
  ⟨(ItZ K y z).go, (ItZ K y z).yld, fun i H => ∃ xs ys : List V, y.has K H xs ∧ z.has K H ys ∧ i = xs.length ∧ i ≤ ys.length⟩
theorem turn_zipN {P : Program} {w : World} {K : PySem.W.Frag} {n : String} {tpos : Pos} {N : Nat} {y z : Src} (ly : ∀ a, y.val = .ref a → a < N) (lz : ∀ a, z.val = .ref a → a < N) :
    Turn P w K (.Name n tpos) (ItZN K y z) [N + 4, N + 2, N + 3, N, N + 1] (N + 4) (fun i h => ZnZ h (N + 4) (N + 2) (N + 3) ∧ IsTupOf2 h (N + 2) (.ref N) (.ref (N + 1)) ∧ (∃ a b, IsTupOf2 h (N + 3) a b) ∧ y.it N i h ∧ z.it (N + 1) i h) where
  mem := by simp
  obj := fun i h st c hc => by
    obtain ⟨hz, hTI, ⟨a, b, hTO⟩, h1, h2⟩ := st
    obtain ⟨v0, f, hz⟩ := hz.obj
    have e' : c = N + 4 ∨ c = N + 2 ∨ c = N + 3 ∨ c = N ∨ c = N + 1 := by simpa using hc
    rcases e' with q | q | q | q | q
    · rw [q]; exact ⟨_, hz, fun v q => nomatch q⟩
    · rw [q]; exact ⟨_, hTI, fun v q => nomatch q⟩
    · rw [q]; exact ⟨_, hTO, fun v q => nomatch q⟩
    · rw [q]; exact Src.obj h1
    · rw [q]; exact Src.obj h2
  keep := fun i h h' st k => by
    obtain ⟨hz, hTI, ⟨a, b, hTO⟩, h1, h2⟩ := st
    exact ⟨hz.mono fun o q => k _ (by simp) o q, k _ (by simp) _ hTI, ⟨a, b, k _ (by simp) _ hTO⟩, Src.keep h1 fun o q => k N (by simp) o q, Src.keep h2 fun o q => k (N + 1) (by simp) o q⟩
  item := by
    intro X hP hw hK hc i pins s σ H E I hf st hg
    subst hP hw hK
    obtain ⟨hz, hTI, hTO, h1, h2⟩ := st
    obtain ⟨xs, ys, a, b, hqx, hqy, ha, hb⟩ := hg
    have hh := I.ok.hd hc
    obtain ⟨fp1, P1, St1, D1, f1, s1, b1, p1⟩ := Src.draws hh I hqx h1 (fun c e => Nat.ne_of_lt (ly c e))
    obtain ⟨fp2, P2, St2, D2, f2, s2, b2, p2⟩ := Src.draws hh I hqy h2 (fun c e => Nat.ne_of_lt (Nat.lt_succ_of_lt (lz c e)))
    have S : ZipSep2 (N + 4) (N + 2) (N + 3) N (N + 1) (N :: fp1) ((N + 1) :: fp2) := zip_sep2 (fun c e => ly c (f1 c e)) (fun c e => lz c (f2 c e))
    obtain ⟨v0, fz, hz0⟩ := hz.obj
    have hzl : N + 4 < s.heap.objs.size := Heap.lt_size hz0
    have l1 : i < xs.length := (List.getElem?_eq_some_iff.mp ha).1
    have l2 : i < ys.length := (List.getElem?_eq_some_iff.mp hb).1
    refine zn_item S D1 D2 ⟨hTI, s1, s2, hTO, hz⟩ l1 l2 fun u u2 h' tk hu hu2 st' hT hsz hk => ?_
    obtain ⟨hTI', st1, st2, hTO', hz'⟩ := st'
    obtain ⟨a', ea, ra⟩ := p1 i u hu
    obtain ⟨b', eb, rb⟩ := p2 i u2 hu2
    refine ⟨_, rfl, wpAny_pure ?_⟩
    have new : ObjOk X.prog X.w (upd H s.heap.objs.size (.tup [a', b'])) h' s.heap.objs.size (.tup [a', b']) :=
      ⟨by show 2 ≤ sizeLine; decide, [u, u2], .cons ra (.cons rb .nil), ⟨_, hT, rfl, _, rfl⟩⟩
    have I1 : L2.Inv X pins σ (upd H s.heap.objs.size (.tup [a', b'])) { s with heap := h', toks := tk } :=
      I.turnedNew (t' := tk) (ch := [N + 4, N + 2, N + 3, N, N + 1]) (fun c o hb q => hk c o (fun q' => hb (by simp [q'])) (fun q' => hb (by simp [q'])) (fun q' => hb (by simp [q'])) (fun q' => hb (by simp [q'])) q) hf (Nat.le_refl _) new
    refine ⟨.ref s.heap.objs.size, _, I1, rfl, ⟨_, a', b', rfl, I.hok.fresh (Nat.le_refl _), rfl, fun l hl => by rw [Src.inj I hl hqx]; exact ea, fun l hl => by rw [Src.inj I hl hqy]; exact eb⟩, ⟨hz', hTI', hTO', b1 _ _ st1, b2 _ _ st2⟩, fun c hcm => ?_⟩
    have hlt : c < s.heap.objs.size := by
      have e' : c = N + 4 ∨ c = N + 2 ∨ c = N + 3 ∨ c = N ∨ c = N + 1 := by simpa using hcm
      rcases e' with q | q | q | q | q
      · rw [q]; exact hzl
      · rw [q]; exact Nat.lt_trans (Nat.add_lt_add_left (by decide) N) hzl
      · rw [q]; exact Nat.lt_trans (Nat.add_lt_add_left (by decide) N) hzl
      · rw [q]; exact Nat.lt_trans (Nat.lt_add_of_pos_right (by decide)) hzl
      · rw [q]; exact Nat.lt_trans (Nat.add_lt_add_left (by decide) N) hzl
    rw [upd_ne (Nat.ne_of_lt hlt)]
    exact (hf c hcm).1
  done := by
    intro X hP hw hK hc i pins s σ H E I hf st hg
    subst hP hw hK
    obtain ⟨hz, hTI, hTO, h1, h2⟩ := st
    obtain ⟨xs, ys, hqx, hqy, e1, e2⟩ := hg
    subst e1
    have hh := I.ok.hd hc
    obtain ⟨fp1, P1, St1, D1, f1, s1, b1, p1⟩ := Src.draws hh I hqx h1 (fun c e => Nat.ne_of_lt (ly c e))
    obtain ⟨fp2, P2, St2, D2, f2, s2, b2, p2⟩ := Src.draws hh I hqy h2 (fun c e => Nat.ne_of_lt (Nat.lt_succ_of_lt (lz c e)))
    have S : ZipSep2 (N + 4) (N + 2) (N + 3) N (N + 1) (N :: fp1) ((N + 1) :: fp2) := zip_sep2 (fun c e => ly c (f1 c e)) (fun c e => lz c (f2 c e))
    exact zn_end S D1 D2 e2 ⟨hTI, s1, s2, hTO, hz⟩ fun h' tk hk => ⟨rfl, I.turnedL (t' := tk) (ch := [N + 4, N + 2, N + 3, N, N + 1]) (fun c o hb q =>
      hk c o (fun q' => hb (by simp [q'])) (fun q' => hb (by simp [q'])) (fun q' => hb (by simp [q'])) (fun q' => hb (by simp [q'])) q) hf⟩
  self := fun A i s Q E st h => by
    obtain ⟨v0, f, hz⟩ := st.1.obj
    exact zn_iter hz h
/-- zip(e, e2), each pair under a name -/
def iZipN (K : PySem.W.Frag) (ta : TA) : TI := fun σ H R => ta σ H fun vs H1 => ∃ (y z : Src) (xs ys : List V), vs = [y.val, z.val] ∧ y.has K H1 xs ∧ z.has K H1 ys ∧ R (ItZN K y z) H1
theorem pi_zipN {X : Cx} {e e2 : Expr} {ta : TA} {p pos tpos : Pos} {n : String} (hg : Gl X "zip") (hm : X.mg "zip" = none) (ha : PA X [e, e2] ta)
    (hs : starEach [e, e2] X.env = (false, eval e X.env) :: starEach [e2] X.env := by rfl) (hpl : (backTo pos (starEach [e2] X.env)).any (·.1) = false := by rfl) :
    PI X (.Name n tpos) (.Call (.Name "zip" p) [e, e2] [] pos) (iZipN X.K ta) := by
  refine ⟨fun pins s σ H R I h => ?_⟩
  refine Call_ (ld_blt I hg hm PyProof.Rows.boot_zip (PyProof.Rows.callWith_type1 (thn (ha.run pos pins s σ H _ I h) fun us s1 ⟨vs, H1, I1, r1, q1⟩ => ?_) hs hpl))
  obtain ⟨y, z, xs, ys, ex, hqx, hqy, q⟩ := q1
  subst ex
  cases r1 with
  | cons r rr =>
    cases rr with
    | cons r' rr =>
      cases rr
      obtain ⟨o1, G1, B1, g1, k1⟩ := Src.begins I1 hqx r
      obtain ⟨o2, G2, B2, g2, k2⟩ := Src.begins I1 hqy r'
      refine zip_begins2 B1 B2 g1 g2 fun h' hz hTI hTO c1 c2 hsz hk => wpAny_pyIter_zip hz ?_
      have I2 : L2.Inv X pins σ H1 { s1 with heap := h' } := I1.kept (t' := s1.toks) hk
      refine ⟨s1.heap.objs.size + 4, [s1.heap.objs.size + 4, s1.heap.objs.size + 2, s1.heap.objs.size + 3, s1.heap.objs.size, s1.heap.objs.size + 1], _, _, H1, rfl, I2, turn_zipN (Src.lt I1 hqx) (Src.lt I1 hqy), ⟨.inl hz, hTI, ⟨_, _, hTO⟩, k1 _ _ c1, k2 _ _ c2⟩, fun c hcm => ?_, q⟩
      have e' : c = s1.heap.objs.size + 4 ∨ c = s1.heap.objs.size + 2 ∨ c = s1.heap.objs.size + 3 ∨ c = s1.heap.objs.size ∨ c = s1.heap.objs.size + 1 := by simpa using hcm
      have hle : s1.heap.objs.size ≤ c := by rcases e' with q | q | q | q | q <;> rw [q] <;> omega
      exact I1.fpOk hle (I1.hok.fresh hle)
theorem pi_zipNK {X : Cx} {e e2 : Expr} {ta : TA} {p pos tpos : Pos} {n : String} {K : PySem.W.Frag} (h : X.K = K) (hg : Gl X "zip") (hm : X.mg "zip" = none) (ha : PA X [e, e2] ta)
    (hs : starEach [e, e2] X.env = (false, eval e X.env) :: starEach [e2] X.env := by rfl) (hpl : (backTo pos (starEach [e2] X.env)).any (·.1) = false := by rfl) :
    PI X (.Name n tpos) (.Call (.Name "zip" p) [e, e2] [] pos) (iZipN K ta) := h ▸ pi_zipN hg hm ha hs hpl
theorem walk_zipN {K : PySem.W.Frag} {y z : Src} {xs ys : List V} (hn : xs.length = ys.length) : Walk (ItZN K y z) xs.length (fun H => y.has K H xs ∧ z.has K H ys) (YPair (fun i => xs[i]?) (fun i => ys[i]?)) := by
  refine ⟨fun i _ hi q => ?_, fun _ q => ⟨xs, ys, q.1, q.2, rfl, by omega⟩, fun i H v H' _ q y => ?_⟩
  · have h2 : i < ys.length := by omega
    exact ⟨xs, ys, xs[i], ys[i], q.1, q.2, by simp [hi], by simp [h2]⟩
  · obtain ⟨T, x, z, h1, h2, h3, h4, h5⟩ := y
    exact ⟨T, x, z, h1, h2, h3, h4 xs q.1, h5 ys q.2⟩
end L3
namespace Lw
open PySem PySem.Spec PyProof.Rows L3
open L2 hiding del del_same del_ne
theorem u65 {k : Nat} {A : Around} (hr : Room k A) : A.units + 65 < cLine := by have := hr.un; omega
theorem mt_indexDK {X : Cx} {K : PySem.W.Frag} (h : X.K = K) (hu : X.A.units + 65 < cLine) : MtR X "list.index" (rIndexD K) := h ▸ mt_indexD hu
def dP (N x : Nat) : PyData := .tuple (dN [x / N, x % N])
theorem dP_enc {N a b : Nat} (hb : b < N) : dP N (M16.enc N a b) = .tuple (dN [a, b]) := by unfold dP; rw [M16.enc_div hb, M16.enc_mod hb]
theorem dP_eqv (N x y : Nat) : PyData.eqv (dP N x) (dP N y) = decide (x = y) := by
  show PyData.eqvAll (dN [x / N, x % N]) (dN [y / N, y % N]) = _
  rw [eqv_dN]
  by_cases h : x = y
  · subst h; simp
  · rw [decide_eq_false h]
    refine decide_eq_false fun e => h ?_
    simp only [List.cons.injEq, and_true] at e
    rw [← M16.enc_dec (N := N) (x := x), ← M16.enc_dec (N := N) (x := y), e.1, e.2]
theorem dP_any (N x : Nat) : ∀ l : List Nat, ((l.map (dP N)).any fun z => PyData.eqv z (dP N x)) = decide (x ∈ l)
  | [] => by simp
  | a :: l => by
    rw [List.map_cons, List.any_cons, dP_eqv, dP_any N x l]
    by_cases h : a = x
    · subst h; simp
    · simp [h, Ne.symm h]
theorem dP_wt {N x : Nat} (h1 : x / N < 1000000000) (h2 : x % N < 1000000000) : Wt (dP N x) 62 1 := Wt.natsT (n := 2) (fun c hc => by simp at hc; rcases hc with h | h <;> omega) (Nat.le_refl _)
theorem dP_sh {N x : Nat} (h1 : x / N < 1000000000) (h2 : x % N < 1000000000) : SeqAt.shaped (dP N x) = true := (dP_wt h1 h2).shaped (by decide)
theorem dPs_sh {N : Nat} {l : List Nat} (hN : 0 < N) (hN2 : N ≤ 1000000000) (h : ∀ x ∈ l, x < 1000000000) : SeqAt.shaped (.list (l.map (dP N))) = true := by
  refine (Wt.list (w := 62) (k := 1) (n := l.length) (fun d hd => ?_) (by rw [List.length_map]; exact Nat.le_refl _)).shaped (by decide)
  obtain ⟨x, hx, rfl⟩ := List.mem_map.mp hd
  exact dP_wt (Nat.lt_of_le_of_lt (Nat.div_le_self _ _) (h x hx)) (Nat.lt_of_lt_of_le (Nat.mod_lt _ hN) hN2)
theorem dP_index {N x : Nat} {l : List Nat} (hd : l.Nodup) (hx : x ∈ l) : (l.map (dP N))[l.idxOf x]? = some (dP N x) ∧ ∀ (m : Nat) (z' : PyData), m < l.idxOf x → (l.map (dP N))[m]? = some z' → PyData.eqv z' (dP N x) = false := by
  refine ⟨by rw [List.getElem?_map, M16.idxA hx]; rfl, fun m z' hm hz => ?_⟩
  rw [List.getElem?_map] at hz
  obtain ⟨y, hy, rfl⟩ := Option.map_eq_some_iff.mp hz
  rw [dP_eqv]
  refine decide_eq_false fun e => ?_
  rw [e] at hy
  rw [M16.idxA_at hd hy] at hm
  exact absurd hm (Nat.lt_irrefl _)
def Prs (K : PySem.W.Frag) (H : Hp) (D : Addr) (N : Nat) (l : List Nat) : Prop := ∃ xs, H D = some (.lst xs) ∧ DpAll K (del H D) xs (l.map (dP N))
section
variable {K : PySem.W.Frag} {H H' : Hp} {D : Addr} {N : Nat} {l : List Nat}
theorem Prs.dp (h : Prs K H D N l) : Dp K H (.ref D) (.list (l.map (dP N))) := by
  obtain ⟨xs, h1, h2⟩ := h
  exact .lst (.inl (.inl h1)) (DpAll.same (del_same _ _) h2)
theorem Prs.has (h : Prs K H D N l) : ∃ xs, H D = some (.lst xs) ∧ xs.length = l.length ∧ SqL K H D xs := by
  obtain ⟨xs, h1, h2⟩ := h
  exact ⟨xs, h1, by rw [dpAll_len h2, List.length_map], .inl (.inl h1)⟩
theorem Prs.same (h : Prs K H D N l) (s : Same H H') : Prs K H' D N l := by
  obtain ⟨xs, h1, h2⟩ := h
  exact ⟨xs, s _ _ h1, DpAll.same (del_mono D s) h2⟩
theorem dp_pair {v : V} {a b : Nat} (h : Dp K H v (.tuple (dN [a, b]))) : ∃ q, v = .ref q ∧ SqT K H q [.int (a : Int), .int (b : Int)] := by
  cases h with
  | tup hs ha => exact ⟨_, rfl, by have e := dpAll_nats ha; rw [e] at hs; exact hs⟩
theorem Prs.get (h : Prs K H D N l) {i x : Nat} (hx : l[i]? = some x) : ∃ xs q, H D = some (.lst xs) ∧ xs[i]? = some (.ref q) ∧ SqT K H q [.int ((x / N : Nat) : Int), .int ((x % N : Nat) : Int)] := by
  obtain ⟨xs, h1, h2⟩ := h
  obtain ⟨v, e, hv⟩ := dpAll_get h2 (i := i) (d := dP N x) (by rw [List.getElem?_map, hx]; rfl)
  obtain ⟨q, rfl, hq⟩ := dp_pair hv
  exact ⟨xs, q, h1, e, sqT_same hq (del_same _ _)⟩
theorem Prs.snoc {xs : List V} {v : V} {x : Nat} (hD : H D = some (.lst xs)) (ha : DpAll K (del H D) xs (l.map (dP N))) (hx : Dp K (del H D) v (dP N x)) : Prs K (upd H D (.lst (xs ++ [v]))) D N (l ++ [x]) := by
  refine ⟨_, upd_same, ?_⟩
  rw [del_upd, List.map_append]
  exact dpAll_app ha (.cons hx .nil)
end
theorem dTR_row {K : PySem.W.Frag} {H : Hp} {r : Addr} {R : List (List Nat)} {p : Nat} (h : Dp K H (.ref r) (dTR R)) (hp : p < R.length) : ∃ ys ya, SqT K H r ys ∧ ys[p]? = some (.ref ya) ∧ SqT K H ya (nV (M14.row R p)) := by
  obtain ⟨ra, ys, e2, hST, hAll⟩ := dp_tuple h
  cases e2
  obtain ⟨y, hy, hdy⟩ := dpAll_get hAll (i := p) (d := .tuple (dN (M14.row R p))) (by rw [List.getElem?_map, M14.row_at hp]; rfl)
  obtain ⟨ya, zs, rfl, hSy, hAy⟩ := dp_tuple hdy
  rw [dpAll_nats hAy] at hSy
  exact ⟨ys, ya, hST, hy, hSy⟩
section
variable {P : Program} {w : World} {K : PySem.W.Frag} {mg : Str → Option Value} {base : Heap}
def spPaired (K : PySem.W.Frag) (C : Addr) : Sp := fun vs H Q _ => ∃ (a b : Addr) (rl : Str) (f : Bool → Bool → Bool) (sg : List Nat) (R S : List (List Nat)) (k l : List Bool), vs = [.ref a, .ref b, .str rl] ∧ IsRule rl f ∧ Mach C K H a sg R k ∧ Mach C K H b sg S l ∧ R.length * S.length ≤ 40 ∧
  ∀ H' x, Same H H' → H x = none → Mach C K H' x sg (M16.pairR R S) (M16.pairK f R S k l) → Q (.ref x) H'
theorem ok_paired_by (T : All K mg) : FnOk P w K mg base CX0 7 T.f_paired_by T.d_paired_by ["one", "other", "rule"] (spPaired K T.C_Machine) := by
  refine T.paired_by.F.ok sc_paired_by (fun vs H Q E h => ?_) (fun cdv A outer s H vs Q E hr h => ?_)
  · obtain ⟨a, b, rl, f, sg, R, S, k, l, rfl, _⟩ := h
    rfl
  · obtain ⟨a, b, rl, f, sg, R, S, k, l, rfl, hf, hM, hN, hmul, q⟩ := h
    have hG := hM.good.toSht
    have hG' := hN.good.toSht
    have hsl := hM.lets.few
    have hRf := hG.few
    obtain ⟨tk, hcv⟩ := T.cv_Machine_MOST_PLACES
    obtain ⟨dx, r, qq, hat, hr1, hk1⟩ := hM.at_
    obtain ⟨dy, r', qq', hbt, hr2, hk2⟩ := hN.at_
    refine ⟨_, pss_cons (ps_set (i := 3) sc_paired_by.nd rfl (by first | exact Or.inl rfl | exact Or.inr rfl) (pe_lst pa_nil))
      (pss_cons (ps_expr (pe_bm PySem.F.plainAttrs_list PySem.F.slot_list_append PySem.F.type_list_append mt_append (pv 3) (pa_cons (pe_tup (pa_cons pe_int (pa_cons pe_int pa_nil))) pa_nil)))
      (pss_cons (ps_set (i := 4) sc_paired_by.nd rfl (by first | exact Or.inl rfl | exact Or.inr rfl) pe_int)
      (pss_cons (ps_while PassesOwn.never (pt_cmpR op_lt (pv 4) (pe_callB call_len_seq (by rfl) T.b_len PySem.boot_len (pa_cons (pv 3) pa_nil)) (nomark _))
        (pss_cons (ps_asg (pe_ix ix_list (pv 3) (pv 4) (fun _ _ => rfl)) (pg_tup rfl (pgs_cons (pg_name (i := 5) sc_paired_by.nd rfl (by first | exact Or.inl rfl | exact Or.inr rfl)) (pgs_cons (pg_name (i := 6) sc_paired_by.nd rfl (by first | exact Or.inl rfl | exact Or.inr rfl)) pgs_nil))))
      (pss_cons (ps_for PassesOwn.never rfl (pi_zipN rfl T.b_zip (pa_cons (pe_ix ix_tup (pe_fld (pv 0) rfl) (pv 5) (fun _ _ => rfl)) (pa_cons (pe_ix ix_tup (pe_fld (pv 1) rfl) (pv 6) (fun _ _ => rfl)) pa_nil))) (pg_name (i := 7) sc_paired_by.nd rfl (by first | exact Or.inl rfl | exact Or.inr rfl))
        (pss_one (ps_if (pt_cmpR (op_notInD (u65 hr)) (pv 7) (pv 3) (by rfl)) (pss_one (ps_expr (pe_bm PySem.F.plainAttrs_list PySem.F.slot_list_append PySem.F.type_list_append mt_append (pv 3) (pa_cons (pv 7) pa_nil)))) pss_nil)))
      (pss_cons (ps_expr (pe_call (ok_want_few T) (hr.mono (by decide)) (by rfl) T.want_few.g T.want_few.F.kp T.want_few.b .nil pass0 (pa_cons pe_str (pa_cons (pe_callB call_len_seq (by rfl) T.b_len PySem.boot_len (pa_cons (pv 3) pa_nil)) (pa_cons (ClX.pe_cval (pe_glob (v := .ref T.C_Machine) rfl T.g_Machine rfl)) pa_nil)))))
      (pss_one (ps_set (i := 4) sc_paired_by.nd rfl (by first | exact Or.inl rfl | exact Or.inr rfl) (pe_op op_add (pv 4) pe_int)))))))
      (pss_cons (ps_setLc (i := 8) (own := [("mine", 5), ("its", 6)]) (tt := tYes) (by rfl) sc_paired_by.nd rfl rfl (sw_true rfl rfl rfl (by decide +kernel)) (pi_list (pv 3))
          (blkOk_by (own := [("mine", 5), ("its", 6)]) (N := ["one", "other", "rule", "pairs", "at", "mine", "its", "pair", "rows", "kinds"]) (sc := defScope s_paired_by) (by decide +kernel))
          (fun _ _ _ _ _ => (pg_tupK (K := K) (n := 2) rfl rfl (pgs_cons (pg_name (i := 5) sc_paired_by.nd rfl (Or.inl rfl)) (pgs_cons (pg_name (i := 6) sc_paired_by.nd rfl (Or.inl rfl)) pgs_nil)) rfl)) (fun _ _ _ _ _ => pts_nil)
          (fun _ _ _ _ _ => (pe_lc (own := [("pair", 7)]) (g := gName 7) (tt := tYes) rfl sc_paired_by.nd (pi_zipNK (K := K) rfl rfl T.b_zip (pa_cons (pe_ix (ix_tupK (K := K) rfl) (pe_fldK (K := K) rfl (pv 0) rfl) (pv 5) (fun _ _ => rfl)) (pa_cons (pe_ix (ix_tupK (K := K) rfl) (pe_fldK (K := K) rfl (pv 1) rfl) (pv 6) (fun _ _ => rfl)) pa_nil)))
          (blkOk_by (own := [("pair", 7)]) (N := ["one", "other", "rule", "pairs", "at", "mine", "its", "pair", "rows", "kinds"]) (by first | kernel_rfl | rfl))
          (fun _ _ _ _ _ => pg_name (i := 7) sc_paired_by.nd rfl (by first | exact Or.inl rfl | exact Or.inr rfl)) (fun _ _ _ _ _ => pts_nil)
          (fun _ _ _ _ _ => (pe_bmk (K := K) rfl PySem.F.plainAttrs_list PySem.F.slot_list_index PySem.F.type_list_index (mt_indexDK (K := K) rfl (u65 hr)) (pv 3) (pa_cons (pv 7) pa_nil))))))
      (pss_cons (ps_setLc (i := 9) (own := [("mine", 5), ("its", 6)]) (tt := tYes) (by rfl) sc_paired_by.nd rfl rfl (sw_true rfl rfl rfl (by decide +kernel)) (pi_list (pv 3))
          (blkOk_by (own := [("mine", 5), ("its", 6)]) (N := ["one", "other", "rule", "pairs", "at", "mine", "its", "pair", "rows", "kinds"]) (sc := defScope s_paired_by) (by decide +kernel))
          (fun _ _ _ _ _ => (pg_tupK (K := K) (n := 2) rfl rfl (pgs_cons (pg_name (i := 5) sc_paired_by.nd rfl (Or.inl rfl)) (pgs_cons (pg_name (i := 6) sc_paired_by.nd rfl (Or.inl rfl)) pgs_nil)) rfl)) (fun _ _ _ _ _ => pts_nil)
          (fun _ _ _ _ _ => (pe_call (ok_is_so T) (hr.mono (by decide)) (by rfl) T.is_so.g T.is_so.F.kp T.is_so.b .nil pass0 (pa_cons (pv 2) (pa_cons (pe_ix (ix_tupK (K := K) rfl) (pe_fldK (K := K) rfl (pv 0) rfl) (pv 5) (fun _ _ => rfl)) (pa_cons (pe_ix (ix_tupK (K := K) rfl) (pe_fldK (K := K) rfl (pv 1) rfl) (pv 6) (fun _ _ => rfl)) pa_nil))))))
      (pss_one (ps_ret (pe_make ⟨T.mk_Machine, T.Machine_init.m.at_, T.Machine_init.m.fn, T.kp_Machine⟩ (ok_Machine_init T) (hr.mono (by decide)) (by rfl) T.g_Machine T.Machine_init.b .nil pass0 (pa_cons (pe_fld (pv 0) rfl) (pa_cons (pv 8) (pa_cons (pv 9) pa_nil))))))))))), ?_⟩
    refine ⟨by show 0 ≤ sizeLine; decide, fun D nD => ?_⟩
    refine ⟨_, rfl, .inl ⟨rfl, _, .inl (.inl upd_same)⟩, by show 2 ≤ sizeLine; decide, fun q0 nq0 => ?_⟩
    have hneD : q0 ≠ D := fun e => by rw [e, upd_same] at nq0; cases nq0
    refine ⟨D, _, _, rfl, rfl, by rw [upd_ne (Ne.symm hneD)]; exact upd_same, by show 0 < sizeLine; decide, ?_⟩
    have hS := M16.prod_sht (f := f) hG hG' hmul
    have hNp := hG'.ne
    have hNf := hG'.few
    have hx0 : 0 < (M16.prodR R S).length := hS.ne
    have hv : M14.Val (M16.prodR R S) := hS.val
    have hP1 : Prs K (upd (upd (upd H D (.lst [])) q0 (.tup [.int 0, .int 0])) D (.lst ([] ++ [.ref q0]))) D S.length (M14.metI (M16.prodR R S) 0 0) := by
      refine Prs.snoc (l := []) (x := 0) (by rw [upd_ne (Ne.symm hneD)]; exact upd_same) .nil ?_
      unfold dP
      rw [Nat.zero_div, Nat.zero_mod]
      refine .tup (.inl (.inl (by rw [del_ne hneD]; exact upd_same))) (dpAll_nV [0, 0])
    have sH1 : Same H (upd (upd (upd H D (.lst [])) q0 (.tup [.int 0, .int 0])) D (.lst ([] ++ [.ref q0]))) := same_up (same_up (same_upd nD) ((upd_ne hneD).symm.trans nq0)) nD
    generalize (upd (upd (upd H D (.lst [])) q0 (.tup [.int 0, .int 0])) D (.lst ([] ++ [.ref q0]))) = H1 at hP1 sH1 ⊢
    refine while_n (fun n σ H' => ∃ s5 s6 s7, σ = [some (.ref a), some (.ref b), some (.str rl), some (.ref D), some (.int (n : Int)), s5, s6, s7, none, none] ∧ Prs K H' D S.length (M14.metI (M16.prodR R S) 0 n) ∧ Same H H') 41 ⟨none, none, none, rfl, hP1, sH1⟩ (fun n σ H2 p Kc kt kf => ?_)
    obtain ⟨s5, s6, s7, rfl, hP, sm⟩ := p
    have hlen := M14.metI_len hv hx0 n
    obtain ⟨xs, hD, hxl, hL⟩ := hP.has
    have hML : (M16.prodR R S).length = R.length * S.length := M16.prodR_len R S
    refine ⟨_, rfl, _, rfl, D, xs, rfl, .inl hL, _, _, rfl, rfl, _, rfl, ?_⟩
    rw [hxl]
    by_cases hlt : n < (M14.metI (M16.prodR R S) 0 n).length
    · rw [decide_eq_true (by omega : (n : Int) < ((M14.metI (M16.prodR R S) 0 n).length : Int))]
      refine kt _ (by omega) ?_
      have hgt : (M14.metI (M16.prodR R S) 0 n)[n]? = some (M14.metI (M16.prodR R S) 0 n)[n] := List.getElem?_eq_getElem hlt
      generalize (M14.metI (M16.prodR R S) 0 n)[n] = x at hgt
      have hx : x < (M16.prodR R S).length := M14.metI_lt hv hx0 n x (List.mem_of_getElem? hgt)
      obtain ⟨xs', q1, hD', hq1, hSq1⟩ := hP.get hgt
      rw [hD] at hD'
      cases hD'
      have hxm := M16.div_lt (M := R.length) (N := S.length) (by rw [← hML]; exact hx)
      obtain ⟨ys, ya, hST, hy, hSy⟩ := dTR_row hr1 hxm.1
      obtain ⟨ys', yb, hST', hy', hSy'⟩ := dTR_row hr2 hxm.2
      have hl1 : (M14.row R (x / S.length)).length = sg.length := hG.len _ (M14.row_mem hxm.1)
      have hl2 : (M14.row S (x % S.length)).length = sg.length := hG'.len _ (M14.row_mem hxm.2)
      refine ⟨_, rfl, _, rfl, D, xs, _, _, rfl, rfl, hL, atI_nat hq1, q1, _, rfl, hSq1, rfl, _, _, rfl, _, _, rfl, rfl, ?_⟩
      refine ⟨_, rfl, a, T.C_Machine, dx, _, _, rfl, sm _ _ hat, T.cl_Machine, T.n_Machine_own_rows, rfl, _, rfl, r, ys, _, _, rfl, rfl, sqT_same hST sm, atI_nat hy, _, rfl, b, T.C_Machine, dy, _, _, rfl, sm _ _ hbt, T.cl_Machine, T.n_Machine_own_rows, rfl, _, rfl, r', ys', _, _, rfl, rfl, sqT_same hST' sm, atI_nat hy', .T ya, .T yb, _, _, rfl, sqT_same hSy sm, sqT_same hSy' sm, ?_⟩
      refine for_it (walk_zipN (K := K) (xs := nV (M14.row R (x / S.length))) (ys := nV (M14.row S (x % S.length))) (by rw [nV_len, nV_len, hl1, hl2])) (fun i σ H' => ∃ g, σ = [some (.ref a), some (.ref b), some (.str rl), some (.ref D), some (.int (n : Int)), some (.int ((x / S.length : Nat) : Int)), some (.int ((x % S.length : Nat) : Int)), g, none, none] ∧ Prs K H' D S.length (((M14.row (M16.prodR R S) x).take i).foldl M14.addG (M14.metI (M16.prodR R S) 0 n)) ∧ Same H H') ⟨_, rfl, hP, sm⟩ (fun i σ H' _ p => by obtain ⟨_, _, _, s2⟩ := p; exact ⟨sqT_same hSy s2, sqT_same hSy' s2⟩) (fun i z σ H3 H4 hi p' y => ?_) (fun σ H3 p' => ?_)
      · obtain ⟨g1, rfl, hP2, sm2⟩ := p'
        obtain ⟨Tz, v1, v2, rfl, nT, rfl, e1, e2⟩ := y
        obtain ⟨c1, hc1, rfl⟩ := nV_inv e1
        obtain ⟨c2, hc2, rfl⟩ := nV_inv e2
        have hrow : (M14.row (M16.prodR R S) x)[i]? = some (M16.enc S.length c1 c2) := by
          rw [M16.prodR_row (by rw [← hML]; exact hx), List.getElem?_map, (List.getElem?_zip_eq_some (z := (c1, c2))).mpr ⟨hc1, hc2⟩]
          rfl
        have hc1l : c1 < R.length := hG.val _ hxm.1 c1 (List.mem_of_getElem? hc1)
        have hc2l : c2 < S.length := hG'.val _ hxm.2 c2 (List.mem_of_getElem? hc2)
        have hxx : M16.enc S.length c1 c2 < R.length * S.length := M16.enc_lt hc1l hc2l
        have hstep : ((M14.row (M16.prodR R S) x).take (i + 1)).foldl M14.addG (M14.metI (M16.prodR R S) 0 n) = M14.addG (((M14.row (M16.prodR R S) x).take i).foldl M14.addG (M14.metI (M16.prodR R S) 0 n)) (M16.enc S.length c1 c2) := by
          rw [List.take_add_one, hrow, List.foldl_append]; rfl
        rw [hstep]
        have hmem : ∀ z ∈ ((M14.row (M16.prodR R S) x).take i).foldl M14.addG (M14.metI (M16.prodR R S) 0 n), z < (M16.prodR R S).length := fun z hz => by
          rcases M14.fold_mem.mp hz with hz | hz
          · exact M14.metI_lt hv hx0 n z hz
          · exact hv x hx z (List.mem_of_mem_take hz)
        have hlen2 : (((M14.row (M16.prodR R S) x).take i).foldl M14.addG (M14.metI (M16.prodR R S) 0 n)).length ≤ (M16.prodR R S).length := M14.nodup_len _ _ (M14.fold_nodup (M14.metI_nodup _ 0 n)) hmem
        generalize ((M14.row (M16.prodR R S) x).take i).foldl M14.addG (M14.metI (M16.prodR R S) 0 n) = acc at hP2 hmem hlen2 ⊢
        have sT := same_upd (o := .tup [.int (c1 : Int), .int (c2 : Int)]) nT
        have hTz := upd_same (H := H3) (a := Tz) (o := .tup [.int (c1 : Int), .int (c2 : Int)])
        have hP3 := hP2.same sT
        obtain ⟨zs, hD3, hA3⟩ := id hP3
        have hTD : Tz ≠ D := fun e => by
          obtain ⟨zs', h1, _⟩ := hP2
          rw [e, h1] at nT
          cases nT
        generalize upd H3 Tz (.tup [.int (c1 : Int), .int (c2 : Int)]) = H4 at *
        have hdp : ∀ H' : Hp, H' Tz = some (.tup [.int (c1 : Int), .int (c2 : Int)]) → Dp K H' (.ref Tz) (dP S.length (M16.enc S.length c1 c2)) := fun H' e => by rw [dP_enc hc2l]; exact .tup (.inl (.inl e)) (dpAll_nV [c1, c2])
        refine ⟨_, rfl, _, rfl, dP S.length (M16.enc S.length c1 c2), _, hdp _ hTz, hP3.dp, dP_sh (by rw [M16.enc_div hc2l]; omega) (by rw [M16.enc_mod hc2l]; omega), dPs_sh hNp (by omega) (fun z hz => by have := hmem z hz; omega), _, rfl, ?_⟩
        rw [dP_any]
        by_cases hm : M16.enc S.length c1 c2 ∈ acc
        · refine ite_f (by simp [hm]) ?_
          refine ⟨_, rfl, ?_, sm2.trans sT⟩
          rw [M14.addG, if_pos hm]
          exact hP3
        · refine ite_t (by simp [hm]) ?_
          refine ⟨_, rfl, .inl ⟨rfl, _, .inl (.inl hD3)⟩, _, rfl, D, _, _, rfl, rfl, hD3, by rw [dpAll_len hA3, List.length_map]; exact Nat.lt_of_lt_of_le (Nat.lt_succ_of_le hlen2) (sz (by omega)), ?_⟩
          refine ⟨_, rfl, ?_, ?_⟩
          · rw [M14.addG, if_neg hm]
            exact Prs.snoc hD3 hA3 (hdp _ (by rw [del_ne hTD]; exact hTz))
          · exact same_up (sm2.trans sT) nD
      · obtain ⟨g1, rfl, hP2, sm2⟩ := p'
        rw [show (nV (M14.row R (x / S.length))).length = (M14.row (M16.prodR R S) x).length by rw [nV_len, hl1, hS.len _ (M14.row_mem hx)], List.take_length, ← M14.metI_succ hgt] at hP2
        have hlen3 := M14.metI_len hv hx0 (n + 1)
        obtain ⟨xs, hD, hxl, hL⟩ := hP2.has
        refine ⟨_, rfl, D, xs, rfl, .inl hL, T.C_Machine, .type "type", _, _, rfl, T.cr_Machine, hcv, _, _, _, rfl, by omega, ?_⟩
        exact ⟨_, rfl, _, _, rfl, rfl, _, _, _, by simp; exact ⟨rfl, rfl, rfl⟩, hP2, sm2⟩
    · rw [decide_eq_false (by omega : ¬ (n : Int) < ((M14.metI (M16.prodR R S) 0 n).length : Int))]
      refine kf _ ?_
      have hmet := M14.met_of hv hx0 (by omega : (M14.metI (M16.prodR R S) 0 n).length ≤ n)
      rw [hmet] at hP hxl
      have hnd : (M14.met (M16.prodR R S) 0).Nodup := M14.met_nodup _ _
      have hml : ∀ x ∈ M14.met (M16.prodR R S) 0, x < (M16.prodR R S).length := fun x hx => M14.met_lt hv hx0 hx
      have hlm : (M14.met (M16.prodR R S) 0).length ≤ (M16.prodR R S).length := M14.nodup_len _ _ hnd hml
      refine ⟨_, rfl, D, rfl, ⟨xs, hL⟩, fun D2 nD2 => ?_⟩
      refine lc_data (K := K) (walk_list (xs := xs)) ((M16.pairR R S).map fun r => .list (dN r)) (by rw [List.length_map, hxl, M16.pair_rows_eq, List.length_map]; rfl) (sz (by omega)) nD2 (fun H' s' => sq_same hL s') (fun i y Hh H' acc d Cc hi sm2 hD2 yy hd c => ?_) gTup2_mono (fun H5 ys s5 hD5 hA => ?_)
      · obtain ⟨rfl, hy⟩ := yy
        have hi2 : i < (M14.met (M16.prodR R S) 0).length := by omega
        have hgt : (M14.met (M16.prodR R S) 0)[i]? = some (M14.met (M16.prodR R S) 0)[i] := List.getElem?_eq_getElem hi2
        generalize (M14.met (M16.prodR R S) 0)[i] = x at hgt
        have hxmem := List.mem_of_getElem? hgt
        have hx := hml x hxmem
        obtain ⟨xs', q1, hD', hq1, hSq1⟩ := hP.get hgt
        rw [hD] at hD'
        cases hD'
        rw [hy] at hq1
        cases hq1
        have hxm := M16.div_lt (M := R.length) (N := S.length) (by rw [← hML]; exact hx)
        obtain ⟨ys, ya, hST, hy, hSy⟩ := dTR_row hr1 hxm.1
        obtain ⟨ys', yb, hST', hy', hSy'⟩ := dTR_row hr2 hxm.2
        have hl1 : (M14.row R (x / S.length)).length = sg.length := hG.len _ (M14.row_mem hxm.1)
        have hl2 : (M14.row S (x % S.length)).length = sg.length := hG'.len _ (M14.row_mem hxm.2)
        have hd2 : d = .list (dN ((M14.row (M16.prodR R S) x).map fun g => (M14.met (M16.prodR R S) 0).idxOf g)) := by
          rw [M16.pair_rows_eq, List.map_map, List.getElem?_map] at hd
          have e : (M16.prs R S)[i]? = some x := hgt
          rw [e] at hd
          exact (Option.some.inj hd).symm
        subst hd2
        have s0 := sm.trans sm2
        refine ⟨q1, _, rfl, sqT_same hSq1 sm2, rfl, _, _, rfl, _, _, rfl, rfl, rfl, ?_⟩
        refine ⟨_, rfl, a, T.C_Machine, dx, _, _, rfl, s0 _ _ hat, T.cl_Machine, T.n_Machine_own_rows, rfl, _, rfl, r, ys, _, _, rfl, rfl, sqT_same hST s0, atI_nat hy, _, rfl, b, T.C_Machine, dy, _, _, rfl, s0 _ _ hbt, T.cl_Machine, T.n_Machine_own_rows, rfl, _, rfl, r', ys', _, _, rfl, rfl, sqT_same hST' s0, atI_nat hy', .T ya, .T yb, _, _, rfl, sqT_same hSy s0, sqT_same hSy' s0, fun D3 nD3 => ?_⟩
        refine lc_gen (walk_zipN (K := K) (xs := nV (M14.row R (x / S.length))) (ys := nV (M14.row S (x % S.length))) (by rw [nV_len, nV_len, hl1, hl2])) (Same H') (fun jj acc => acc = nV (((M14.row (M16.prodR R S) x).take jj).map fun g => (M14.met (M16.prodR R S) 0).idxOf g)) (sz (by rw [nV_len, hl1]; omega)) (fun jj acc e => by rw [e, nV_len, List.length_map, List.length_take]; exact Nat.min_le_left _ _) rfl (same_upd nD3) (fun _ _ h => same_up h nD3) (fun _ h => ⟨sqT_same hSy (s0.trans h), sqT_same hSy' (s0.trans h)⟩) (fun j z H7 H8 acc2 C2 Nn hj r7 hD3 ha y2 c2 n2 => ?_) (fun H7 zs r7 hD3 ha => ?_)
        · obtain ⟨Tz, v1, v2, rfl, nT, rfl, e1, e2⟩ := y2
          obtain ⟨c1, hc1, rfl⟩ := nV_inv e1
          obtain ⟨g2, hg2, rfl⟩ := nV_inv e2
          have hrow : (M14.row (M16.prodR R S) x)[j]? = some (M16.enc S.length c1 g2) := by
            rw [M16.prodR_row (by rw [← hML]; exact hx), List.getElem?_map, (List.getElem?_zip_eq_some (z := (c1, g2))).mpr ⟨hc1, hg2⟩]
            rfl
          have hc1l : c1 < R.length := hG.val _ hxm.1 c1 (List.mem_of_getElem? hc1)
          have hc2l : g2 < S.length := hG'.val _ hxm.2 g2 (List.mem_of_getElem? hg2)
          have hxx : M16.enc S.length c1 g2 < R.length * S.length := M16.enc_lt hc1l hc2l
          have hxin := M14.met_closed hv hx0 hxmem (List.mem_of_getElem? hrow)
          have sT := same_upd (o := .tup [.int (c1 : Int), .int (g2 : Int)]) nT
          have hTz := upd_same (H := H7) (a := Tz) (o := .tup [.int (c1 : Int), .int (g2 : Int)])
          generalize upd H7 Tz (.tup [.int (c1 : Int), .int (g2 : Int)]) = H9 at *
          have hP9 := hP.same (sm2.trans (r7.trans sT))
          have hL9 := sq_same hL (sm2.trans (r7.trans sT))
          have hdp : Dp K H9 (.ref Tz) (dP S.length (M16.enc S.length c1 g2)) := by rw [dP_enc hc2l]; exact .tup (.inl (.inl hTz)) (dpAll_nV [c1, g2])
          obtain ⟨hz1, hz2⟩ := dP_index (N := S.length) hnd hxin
          refine ⟨rfl, yes_te ⟨_, rfl, .inl ⟨rfl, _, hL9⟩, _, rfl, D, _, dP S.length (M16.enc S.length c1 g2), _, _, _, rfl, rfl, hP9.dp, hdp, dPs_sh hNp (by omega) (fun z hz => by have := hml z hz; omega), dP_sh (by rw [M16.enc_div hc2l]; omega) (by rw [M16.enc_mod hc2l]; omega), hz1, by rw [dP_eqv]; exact decide_eq_true rfl, hz2, ?_⟩⟩
          refine c2 _ _ (r7.trans sT) (sT _ _ hD3) ?_
          rw [ha, List.take_add_one, hrow, List.map_append]
          exact (nV_snoc _ _).symm
        · subst ha
          rw [show (nV (M14.row R (x / S.length))).length = (M14.row (M16.prodR R S) x).length by rw [nV_len, hl1, hS.len _ (M14.row_mem hx)], List.take_length] at hD3
          refine c _ _ r7 (.lst (.inl (.inl ?_)) (dpAll_nV _))
          rw [del_ne (fun e => by rw [e, hD2] at nD3; cases nD3)]
          exact hD3
      have s05 := sm.trans s5
      have hL5 := sq_same hL s5
      refine ⟨_, rfl, D, rfl, ⟨xs, hL5⟩, fun D4 nD4 => ?_⟩
      refine lc_gen (walk_list (xs := xs)) (Same H5) (fun i acc => acc = (((M14.met (M16.prodR R S) 0).take i).map fun x => M14.kAt (M16.prodK f R S k l) x).map V.bl) (sz (by omega)) (fun i acc e => by rw [e, List.length_map, List.length_map, List.length_take]; exact Nat.min_le_left _ _) rfl (same_upd nD4) (fun _ _ h => same_up h nD4) (fun _ h => sq_same hL5 h) (fun i y H6 H7 acc Cc Nn hi r6 hD4 ha yy c n2 => ?_) (fun H6 zs s6 hD4 ha => ?_)
      · obtain ⟨rfl, hy⟩ := yy
        have hi2 : i < (M14.met (M16.prodR R S) 0).length := by omega
        have hgt : (M14.met (M16.prodR R S) 0)[i]? = some (M14.met (M16.prodR R S) 0)[i] := List.getElem?_eq_getElem hi2
        generalize (M14.met (M16.prodR R S) 0)[i] = x at hgt
        have hx := hml x (List.mem_of_getElem? hgt)
        obtain ⟨xs', q1, hD', hq1, hSq1⟩ := hP.get hgt
        rw [hD] at hD'
        cases hD'
        rw [hy] at hq1
        cases hq1
        have hxm := M16.div_lt (M := R.length) (N := S.length) (by rw [← hML]; exact hx)
        have hk1l := hG.kin
        have hk2l := hG'.kin
        have s0 := s05.trans r6
        refine ⟨q1, _, rfl, sqT_same hSq1 (s5.trans r6), rfl, _, _, rfl, _, _, rfl, rfl, rfl, yes_te ⟨_, rfl, _, rfl, a, T.C_Machine, dx, _, _, rfl, s0 _ _ hat, T.cl_Machine, T.n_Machine_own_kinds, rfl, _, rfl, qq, _, _, _, rfl, rfl, sqT_same hk1 s0, atI_nat (kAt_get (by omega)), _, rfl, b, T.C_Machine, dy, _, _, rfl, s0 _ _ hbt, T.cl_Machine, T.n_Machine_own_kinds, rfl, _, rfl, qq', _, _, _, rfl, rfl, sqT_same hk2 s0, atI_nat (kAt_get (by omega)), rl, f, _, _, rfl, hf, ?_⟩⟩
        refine c _ _ r6 hD4 ?_
        rw [ha, List.take_add_one, hgt, List.map_append, List.map_append]
        show _ = _ ++ [V.bl (M14.kAt (M16.prodK f R S k l) x)]
        rw [M16.prodK_at (by rw [← hML]; exact hx)]
      · subst ha
        rw [hxl, List.take_length] at hD4
        have hdL : Dp K H6 (.ref D2) (dLR (M16.pairR R S)) := .lst (.inl (.inl (s6 _ _ hD5))) (DpAll.same ((del_same _ _).trans s6) hA)
        have s06 := s05.trans s6
        refine ⟨_, rfl, a, T.C_Machine, dx, _, _, rfl, s06 _ _ hat, T.cl_Machine, T.n_Machine_own_letters, rfl, _, rfl, _, rfl, ?_⟩
        intro m1 dx_m1 n_m1 nd_m1 _
        refine make_ok (k := M16.pairK f R S k l) hM.lets (rw_dLR hdL) (sq_list (.inl (.inl hD4))) (M16.pair_good hG hG' hmul) n_m1 nd_m1 (fun H7 s7 hM1 => ?_)
        exact q _ _ (s06.trans s7) (s06.free n_m1) hM1
end
end Lw
namespace PySem.W
open PySem PySem.Spec PySem.Calls PyProof.Rows
section
variable {M : Model} {A : Around} {K : Frag}
theorem loop_all {f : Value → PUnit → Sem (ForInStep PUnit)} {s : Shared} {E : Value → Shared → Prop} : ∀ (l : List Value), (∀ c ∈ l, ∀ Q : ForInStep PUnit → Shared → Prop, Q (.yield ⟨⟩) s → wpAny M A (f c ⟨⟩) Q E s) → ∀ {Q : PUnit → Shared → Prop}, Q ⟨⟩ s → wpAny M A (forIn l ⟨⟩ f) Q E s
  | [], _, Q, q => by rw [List.forIn_nil]; exact wpAny_pure q
  | c :: r, h, Q, q => by
    rw [List.forIn_cons]
    exact wpAny_bind (h c List.mem_cons_self _ (loop_all r (fun c hc => h c (List.mem_cons_of_mem _ hc)) q))
theorem loop_any {f : Value → Option Bool × Unit → Sem (ForInStep (Option Bool × Unit))} {cls : Value} {s : Shared} {E : Value → Shared → Prop} : ∀ (l : List Value) (d : Bool), exmAny K cls l = some d →
    (∀ c b, c ∈ l → exmOne K cls c = some b → ∀ Q : ForInStep (Option Bool × Unit) → Shared → Prop, Q (if b then .done (some true, ()) else .yield (none, ())) s → wpAny M A (f c (none, ())) Q E s) →
    ∀ {Q : Option Bool × Unit → Shared → Prop}, Q (if d then (some true, ()) else (none, ())) s → wpAny M A (forIn l (none, ()) f) Q E s
  | [], d, e, _, Q, q => by
    cases e
    rw [List.forIn_nil]; exact wpAny_pure q
  | c :: r, d, e, h, Q, q => by
    obtain ⟨b, d', hb, hd, rfl⟩ := exmAny_cons e
    rw [List.forIn_cons]
    refine wpAny_bind (h c b List.mem_cons_self hb _ ?_)
    cases b with
    | true => exact wpAny_pure q
    | false => exact loop_any r d' hd (fun c b hc => h c b (List.mem_cons_of_mem _ hc)) q
/-- an error against a tuple of classes -/
theorem exm_tupN {cs : List Value} {cls : Value} {tp e : Addr} {b : Bool} {h : Heap} (X : K.In h) (LT : Looks M h (typeOf (.ref e)) cls) (hp : h.get? tp = some { cls := .type "tuple", data := .seq cs.toArray }) (hx : exmAny K cls cs = some b) :
    Looks M h (excMatches (.ref e) (.ref tp)) b := by
  intro A Q E s k₀ q
  obtain ⟨hh, g, d, tk, os⟩ := s
  have k : ∀ b o, h.get? b = some o → hh.get? b = some o := k₀
  have LT0 : Looks M h (isInstance (.ref tp) (.type "tuple")) true := ((Looks.ld hp).andThen .now).andThen (Looks.of_pure isSubtype_tuple_tuple)
  have LT := LT.keeps k
  have LT0 := LT0.keeps k
  have hp' := k _ _ hp
  have all : ∀ (l : List Value) (d : Bool), exmAny K cls l = some d → ∀ c ∈ l, ∃ b, exmOne K cls c = some b := by
    intro l
    induction l with
    | nil => intro d _ c hc; cases hc
    | cons a r ih =>
      intro d e c hc
      obtain ⟨b1, d1, h1, h2, _⟩ := exmAny_cons e
      rcases List.mem_cons.mp hc with rfl | hc
      · exact ⟨_, h1⟩
      · exact ih _ h2 c hc
  unfold excMatches
  refine wpAny_bind (LT0.at ?_)
  dsimp only
  rw [if_pos rfl]
  first
    | refine wpAny_bind (wpAny_seqItems hp' rfl ?_)
    | refine wpAny_bind (wpAny_bind (wpAny_seqItems hp' rfl (wpAny_pure ?_)))
  dsimp only [Option.getD_some, Option.getD]
  refine wpAny_bind (wpAny_pure (wpAny_bind (loop_all cs (fun c hc Q' q' => ?_) ?_)))
  · obtain ⟨b1, h1⟩ := all _ _ hx c hc
    have e1 := (exm_cls (M := M) X h1).1.keeps k
    refine wpAny_bind (e1.at ?_)
    simp only [Bool.not_true, Bool.false_eq_true, if_false]
    exact wpAny_pure q'
  · refine wpAny_bind (LT.at ?_)
    refine wpAny_bind (loop_any (K := K) (cls := cls) cs b hx (fun c b1 hc h1 Q' q' => ?_) ?_)
    · have e2 := (exm_cls (M := M) X h1).2.keeps k
      refine wpAny_bind (e2.at ?_)
      cases b1
      · exact wpAny_pure q'
      · exact wpAny_pure q'
    · cases b
      · exact wpAny_pure q
      · exact wpAny_pure q
end
end PySem.W
namespace L3
open PySem PySem.Spec PyProof.Rows L2
/-- a clause: how its class or classes answer, the slot of its name, what its suite does -/
structure ClsT where
  ask : PySem.W.Frag → Value → Option Bool
  slot : Option Nat
  ts : Addr → Value → Option Addr → TS
def ClsT.ends (k : ClsT) (D : Ends) : Ends := match k.slot with
  | none => D
  | some i => ⟨fun τ G => D.nx (τ.set i none) G, D.rt, fun τ G => D.bk (τ.set i none) G, fun τ G => D.ct (τ.set i none) G⟩
def ClsT.start (k : ClsT) (a : Addr) (σ : L2.St) : L2.St := match k.slot with
  | none => σ
  | some i => σ.set i (some (.ref a))
def wMixT (K : PySem.W.Frag) (Wout : WX) (D : Ends) : List ClsT → WX
  | [] => Wout
  | k :: r => fun cls d σ H => ∃ b, k.ask K cls = some b ∧ (b = true → ∀ a, H a = none → k.ts a cls d (k.ends D) (k.start a σ) H) ∧ (b = false → wMixT K Wout D r cls d σ H)
/-- names of classes -/
inductive NamesL (X : Cx) : List Expr → List Value → Prop
  | nil : NamesL X [] []
  | cons {x : Str} {c : Value} {p1 : Pos} {es : List Expr} {cs : List Value} : Names X x c → NamesL X es cs → NamesL X (.Name x p1 :: es) (c :: cs)
inductive MixOkT (X : Cx) : List ExceptHandler → List ClsT → Prop
  | nil : MixOkT X [] []
  | named {x n : Str} {i : Nat} {c : Value} {ts : Addr → Value → Option Addr → TS} {b₀ : Stmt} {su : List Stmt} {p1 p2 : Pos} {hs : List ExceptHandler} {l : List ClsT} : Names X x c → X.N[i]? = some n → X.env.kindOf n = some .local → SuOk X b₀ su ts → MixOkT X hs l → MixOkT X (.ExceptHandler (some (.Name x p1)) (some n) (b₀ :: su) p2 :: hs) (⟨fun K cls => PySem.W.exmOne K cls c, some i, ts⟩ :: l)
  | many {es : List Expr} {n : Str} {i m : Nat} {cs : List Value} {ts : Addr → Value → Option Addr → TS} {b₀ : Stmt} {su : List Stmt} {p1 p2 : Pos} {hs : List ExceptHandler} {l : List ClsT} : NamesL X es cs → cs.length ≤ 100 → X.N[i]? = some n → X.env.kindOf n = some .local → SuOk X b₀ su ts → MixOkT X hs l → MixOkT X (.ExceptHandler (some (.Tuple es m p1)) (some n) (b₀ :: su) p2 :: hs) (⟨fun K cls => PySem.W.exmAny K cls cs, some i, ts⟩ :: l)
section
variable {X : Cx} {pins : List (Addr × Obj)} {σ : L2.St} {H : Hp} {a : Addr} {cls : Value} {d : Option Addr} {B g : Heap} {sI s : Shared}
/-- one object more in the heap -/
theorem Fly.push (F : Fly X pins σ H a cls d B sI s g) (o : Obj) : Fly X pins σ H a cls d B sI s (g.push o) := by
  have kp : ∀ b u, g.get? b = some u → (g.push o).get? b = some u := fun b u e => Heap.get?_push_of_some _ e
  obtain ⟨f1, f2, f3, f4⟩ := F.fl
  refine F.on ⟨fun b u e => kp b u (f1 b u e), f2, f3.of_keeps fun b u e _ => ⟨u, kp b u e, rfl⟩, ?_⟩ fun b u e _ => ⟨u.slots, kp b u e⟩
  obtain ⟨oe, vs, T, oT, ts, e1, e2, e3, e4, e5, e6, e7, e8, e9⟩ := f4
  exact ⟨oe, vs, T, oT, ts, kp _ _ e1, e2, e3, e4, e5, e6, kp _ _ e7, e8, e9⟩
theorem Fly.names (F : Fly X pins σ H a cls d B sI s g) (hf : X.env.frame = some X.env.locals) {E : Value → Shared → Prop} {pos : Pos} : ∀ {es : List Expr} {cs : List Value}, NamesL X es cs → ∀ {Q : List Value → Shared → Prop}, Q cs { s with heap := g } →
    wpAny (model X.prog X.w) (X.A.mark (some (.ref a))) (spliced (backTo pos (starEach es X.env))) Q E { s with heap := g }
  | _, _, .nil, Q, q => wpAny_items_nil q
  | _, _, .cons hc r, Q, q => by
    obtain ⟨oe, vs, h1, h2, h3, S⟩ := F.suite hf
    obtain ⟨n1, n2, m | ⟨m, n3, n4⟩⟩ := hc
    · exact wpAny_items_cons (ld_glob (X := X.suite a ((a, oe) :: (X.pn ++ pins))) S n1 m (Fly.names F hf r q) n2)
    · exact wpAny_items_cons (ld_blt (X := X.suite a ((a, oe) :: (X.pn ++ pins))) S n1 m n3 (Fly.names F hf r q) n4 n2)
variable {D : Ends} {Wout : WX} {hs : List ExceptHandler} {x n : Str} {i : Nat} {c : Value} {ts : Addr → Value → Option Addr → TS} {b₀ : Stmt} {su : List Stmt} {p1 p2 : Pos} {b : Bool}
/-- the suite of a clause with a name -/
theorem Fly.into (F : Fly X pins σ H a cls d B sI s g) (hf : X.env.frame = some X.env.locals) (nd : X.N.Nodup) (hi : X.N[i]? = some n) (hn : X.env.kindOf n = some .local) (hsu : SuOk X b₀ su ts) {t : Expr} {f : Value → Option Bool}
    (test : ∀ {R : Bool → Shared → Prop} {E : Value → Shared → Prop}, (∀ g', Fly X pins σ H a cls d B sI s g' → R b { s with heap := g' }) → wpAny (model X.prog X.w) (X.A.mark (some (.ref a))) (eval t X.env) (fun c s₁ => wpAny (model X.prog X.w) (X.A.mark (some (.ref a))) (excMatches (.ref a) c) R E s₁) E { s with heap := g })
    (yes : b = true → ts a cls d ((⟨fun K cls => f cls, some i, ts⟩ : ClsT).ends D) (σ.set i (some (.ref a))) H)
    (no : b = false → ∀ g', Fly X pins σ H a cls d B sI s g' → wpAny (model X.prog X.w) X.A (handleBy (.ref a) X.env hs) (SP X pins D) X.xe { s with heap := g' }) :
    wpAny (model X.prog X.w) X.A (handleBy (.ref a) X.env (.ExceptHandler (some t) (some n) (b₀ :: su) p2 :: hs)) (SP X pins D) X.xe { s with heap := g } := by
  refine wpAny_handleBy_cons (codeAny_handlers_test (test fun g' F' => ?_)) fun q => nomatch q
  cases b with
  | false => exact no rfl g' F'
  | true =>
    refine codeAny_handlers_suite_as (HandSPX.lands_againZ F'.fl fun g4 f4 u4 => ?_)
    have F4 := F'.on f4 u4
    have ok := F.J.ok
    obtain ⟨oe, vs, _, z, e3, S⟩ := F4.suite hf
    refine store_ok (X := X.suite a ((a, oe) :: (X.pn ++ pins))) (v := .ref a) S nd hi (.inl hn) rfl (fun s5 S5 => ?_) (.inr hn)
    refine wpAny_mono ((hsu a oe cls d (X.pn ++ pins) z ⟨_, e3⟩).run [] s5 _ H _ S5 (yes rfl)) (fun fl s6 r => ?_) (fun _ _ z => z.elim)
    cases fl with
    | next => obtain ⟨τ, G, S6, q6⟩ := r; exact gone_ok (S6.unsuite ok) nd hi hn fun s7 J7 => ⟨_, _, J7, q6⟩
    | brk => obtain ⟨τ, G, S6, q6⟩ := r; exact gone_ok (S6.unsuite ok) nd hi hn fun s7 J7 => ⟨_, _, J7, q6⟩
    | cont => obtain ⟨τ, G, S6, q6⟩ := r; exact gone_ok (S6.unsuite ok) nd hi hn fun s7 J7 => ⟨_, _, J7, q6⟩
    | ret u => obtain ⟨y, τ, G, S6, ry, q6⟩ := r; exact gone_ok (S6.unsuite ok) nd hi hn fun s7 J7 => ⟨_, _, _, J7, ry, q6⟩
theorem Fly.allT (st : X.stack = X.env :: X.outer) (hf : X.env.frame = some X.env.locals) (nd : X.N.Nodup) (tk : Takes X Wout) : ∀ {hs : List ExceptHandler} {l : List ClsT}, MixOkT X hs l → ∀ {g : Heap}, Fly X pins σ H a cls d B sI s g → wMixT X.K Wout D l cls d σ H →
    wpAny (model X.prog X.w) X.A (handleBy (.ref a) X.env hs) (SP X pins D) X.xe { s with heap := g }
  | _, _, .nil, g, F, w => F.out st hf tk w
  | _, _, .named (c := c) hc hi hn hsu r, g, F, ⟨b, hb, yes, no⟩ => by
    refine F.into (b := b) (f := fun cls => PySem.W.exmOne X.K cls c) hf nd hi hn hsu (fun {R E} k => ?_) (fun e => yes e a F.na) fun e g' F' => Fly.allT st hf nd tk r F' (no e)
    exact F.asked hf hc hb ((F.match_ hb).here (k _ F))
  | _, _, .many (cs := cs) hc hl hi hn hsu r, g, F, ⟨b, hb, yes, no⟩ => by
    refine F.into (b := b) (f := fun cls => PySem.W.exmAny X.K cls cs) hf nd hi hn hsu (fun {R E} k => ?_) (fun e => yes e a F.na) fun e g' F' => Fly.allT st hf nd tk r F' (no e)
    refine wpAny_Tuple (F.names hf hc ⟨?_, ?_⟩)
    · rw [sizeLine_eq]; omega
    have F' := F.push { cls := .type "tuple", data := .seq cs.toArray }
    obtain ⟨oe, vs, h1, h2, h3⟩ := F'.fl.there
    refine (PySem.W.exm_tupN F'.inv.kIn (fun A' M' E' s1 k q => ?_) (Heap.get?_push_size g rfl) hb).here (k _ F')
    refine wpAny_typeOf_ref (k _ _ h1) ?_
    rw [h2.1]
    exact q
end
/-- try: .. except (A, B) as e: .. except C as e: .. -/
theorem ps_try_mixT {X : Cx} {body : List Stmt} {h₀ : ExceptHandler} {hds : List ExceptHandler} {l : List ClsT} {pos : Pos} {tb : WX → TS} {Wout : WX} (st : X.stack = X.env :: X.outer) (hf : X.env.frame = some X.env.locals) (nd : X.N.Nodup) (tk : Takes X Wout)
    (hb : ∀ (W : WX) (pn : List (Addr × Obj)) (xe : Value → Shared → Prop), Takes (X.tr pn xe) W → PassesOwn (model X.prog X.w) X.A X.env xe → PSs (X.tr pn xe) body (tb W))
    (hh : MixOkT X (h₀ :: hds) l) : PS X (.Try body (h₀ :: hds) [] [] pos) (fun D σ H => tb (wMixT X.K Wout D l) D σ H) := by
  refine ⟨fun pins s σ H D I h => ?_⟩
  have ok := I.ok
  have frs_ : X.A.frames = some (X.env :: X.outer) := by rw [ok.frames, st]
  have B_ := hb (wMixT X.K Wout D l) (X.pn ++ pins) (fun e s1 => wpAny (model X.prog X.w) X.A (noteFrame e X.env) (fun _ s2 => wpAny (model X.prog X.w) X.A (setFlight e none) (fun _ s3 => wpAny (model X.prog X.w) X.A (handleBy e X.env (h₀ :: hds)) (SP X pins D) X.xe s3) X.xe s2) X.xe s1)
    (fun u s' xx => by
      obtain ⟨a, B, sI, _, τ, G, cls, d, rfl, J', nb, up, sky, na, os, ag, w⟩ := xx
      have J : L2.Inv X pins τ G sI := J'.ofTry ok
      rw [st] at sky
      show wpAny (model X.prog X.w) X.A (noteFrame (.ref a) X.env) _ _ _
      exact Sky.land Zc.steady frs_ hf sky fun g3 f3 u3 => Fly.allT (s := s') st hf nd tk hh ⟨J, nb, up.trans u3, f3, na, os, ag⟩ w) PassesOwn.looking
  refine wpAny_Try_except (wpAny_mono (B_.run [] s σ H D (I.toTry _) h) (fun fl s1 r => ?_) fun _ _ z => z)
  cases fl with
  | next => obtain ⟨τ, G, J, q⟩ := r; exact wpAny_execs_nil ⟨τ, G, J.ofTry ok, q⟩
  | brk => obtain ⟨τ, G, J, q⟩ := r; exact ⟨τ, G, J.ofTry ok, q⟩
  | cont => obtain ⟨τ, G, J, q⟩ := r; exact ⟨τ, G, J.ofTry ok, q⟩
  | ret u => obtain ⟨y, τ, G, J, ry, q⟩ := r; exact ⟨y, τ, G, J.ofTry ok, ry, q⟩
end L3
namespace PySem.W
open PySem PySem.Spec PySem.Calls PyProof.Rows
section
variable {prog : Program} {w : World} {A : Around} {E : Value → Shared → Prop} {s : Shared} {K : Frag} {x C f : Addr} {ox : Obj} {od : Option Obj}
/-- o op v, v of another type -/
theorem bin_other {op : Operator} {b : Value} {T : String} {fo ro : Option Value} {Q : Value → Shared → Prop} (X : K.In s.heap) (I : InstAt s.heap x ox C od) (hb : Looks (model prog w) s.heap (typeOf b) (.type T)) (hc : selfFirst K C = true)
    (hs : findIn K (.ref C) (PySem.dunder op.info.2) = some (some (.ref f))) (hf : isFn K (.ref f) = true) (hr : findIn K (.ref C) (dunderR op.info.2) = some none)
    (h1 : findIn K (.type T) (PySem.dunder op.info.2) = some fo) (h2 : findIn K (.type T) (dunderR op.info.2) = some ro) (hsub : subIn K (.type T) (.ref C) = some false)
    (h : wpAny (model prog w) A (call (.ref f) [.ref x, b]) (CmpBack Q) E s) : wpAny (model prog w) A (binaryOp op (.ref x) b) Q E s := by
  obtain ⟨cd, rest, hcd, hm⟩ := ksp_first hc
  rcases hi : op.info with ⟨sym, nm⟩
  rw [hi] at hs hr h1 h2
  dsimp only at hs hr h1 h2
  have one := ksp_try X I hs hf h
  obtain ⟨hh, g, d, tt, os⟩ := s
  have La : Looks (model prog w) hh (typeOf (.ref x)) (.ref C) := I.type
  have Lb : Looks (model prog w) hh (typeOf b) (.type T) := hb
  have Lc : Looks (model prog w) hh (fillsNumberSlot (.ref C) nm) true := fills_K X hcd hm hs
  have Ld : Looks (model prog w) hh (fillsNumberSlot (.type T) nm) ((fo.isSome && !isSeqSlot fo) || (ro.isSome && !isSeqSlot ro)) := ksp_fillsT X h1 h2
  have Le : Looks (model prog w) hh (isSubtype (.type T) (.ref C)) false := looks_subIn X hsub
  have Lf : Looks (model prog w) hh (numberSlotInPython (.ref C) nm) true := ksp_inPy X hs hr (.inl rfl)
  have Lg : Looks (model prog w) hh (numberSlotInPython (.type T) nm) false := Looks.of_pure rfl
  have Lh : Looks (model prog w) hh (typeLookup (.type T) (dunderR nm)) ro := looks_findIn X h2
  generalize ((fo.isSome && !isSeqSlot fo) || (ro.isSome && !isSeqSlot ro)) = right at Ld
  have ne : (Value.ref C == Value.type T) = false := Bool.eq_false_iff.mpr fun q => by cases beq_iff_eq.mp q
  simp only [binaryOp, hi]
  refine wpAny_holding (wpAny_bind ?_)
  unfold binaryOp1
  refine wpAny_bind (La.at (wpAny_bind (Lb.at (wpAny_bind (Lc.at ?_)))))
  simp only [ne, Bool.false_eq_true, if_false]
  cases right <;> (ksp_lk; refine wpAny_mono one (fun r s' k => ?_) (fun _ _ e => e); obtain ⟨v, rfl, hq⟩ := k; ksp_lk; exact hq)
end
end PySem.W
namespace L3
open PySem PySem.Spec PyProof.Rows L2
/-- what the table says of op at type t -/
def plainOp (op : Operator) (t : String) : Bool := (fastLookup t (PySem.dunder op.info.2)).isSome && (fastLookup t (dunderR op.info.2)).isSome
section
variable {X : Cx} {C f : Addr} {fd : FuncData} {k : Nat} {sp : Sp} {y : Str} {CX : CXT} {E : XK}
theorem ty_looks {pins : List (Addr × Obj)} {σ : L2.St} {H : Hp} {s : Shared} {x : V} {u t : Value} (I : L2.Inv X pins σ H s) (rx : RelV x u) (ty : TyX X.K H x t) : PySem.W.Looks (model X.prog X.w) s.heap (typeOf u) t := by
  obtain ⟨P, kx, hp, _⟩ := kit_of I rx ty
  exact kx.ty _ _ I.kIn hp
/-- the right operand: an object of the class, or of a built-in type -/
def OthO (op : Operator) (K : PySem.W.Frag) (C : Addr) (H : Hp) (z : V) : Prop := (∃ b dy gs, z = .ref b ∧ H b = some (.ins C dy gs)) ∨ ∃ t, TyX K H z (.type t) ∧ plainOp op t = true ∧ PySem.W.subIn K (.type t) (.ref C) = some false
/-- o op v -/
theorem op_ownA {op : Operator} (F : FnOk X.prog X.w X.K X.mg X.base CX k f fd ["self", y] sp) (hr : Room k X.A) (hb : L2.Binds X.K fd ["self", y] []) (m : Meth X.K C (PySem.dunder op.info.2) f) (hc : PySem.W.selfFirst X.K C = true) (hR : PySem.W.findIn X.K (.ref C) (dunderR op.info.2) = some none) (hx : Passes CX X E) :
    OpR X (binaryOp op) (fun x z H Q => ∃ a dx fs, x = .ref a ∧ H a = some (.ins C dx fs) ∧ OthO op X.K C H z ∧ sp [.ref a, z] H (refQ Q) E) := by
  intro pins s σ H x z v u Q I rx rz h
  obtain ⟨a, dx, fs, rfl, ha, ho, h⟩ := h
  cases rx
  obtain ⟨mA, O, _⟩ := ins_get I.hok ha
  obtain ⟨od, J, _⟩ := O.look
  obtain ⟨mm, FF⟩ := I.fr
  have go : wpAny (model X.prog X.w) X.A (call (.ref f) [.ref a, u]) (PySem.W.CmpBack (EP X pins σ Q)) X.xe s := by
    refine thn (run_fn (vs := [.ref a, z]) (us := [.ref a, u]) F hr hb .nil hx I (.cons rfl (.cons rz .nil)) (by simpa using h)) fun r s' hq => ?_
    obtain ⟨w, H', I', rw', p, rfl, q⟩ := hq
    cases rw'
    exact ⟨.ref p, H', I', rfl, q⟩
  rcases ho with ⟨b, dy, gs, rfl, hb'⟩ | ⟨t, ht, hp, hsub⟩
  · cases rz
    obtain ⟨mA', O', _⟩ := ins_get I.hok hb'
    obtain ⟨od', J', _⟩ := O'.look
    exact PySem.W.binop_K FF I.ok.mod.kin J J'.type hc m.at_ m.fn go
  · unfold plainOp at hp
    rw [Bool.and_eq_true] at hp
    obtain ⟨fo, h1⟩ := Option.isSome_iff_exists.mp hp.1
    obtain ⟨ro, h2⟩ := Option.isSome_iff_exists.mp hp.2
    exact PySem.W.bin_other I.kIn J (ty_looks I rz ht) hc m.at_ m.fn hR h1 h2 hsub go
/-- o op= v by a method of that name -/
theorem iop_ownA {op : Operator} (F : FnOk X.prog X.w X.K X.mg X.base CX k f fd ["self", y] sp) (hr : Room k X.A) (hb : L2.Binds X.K fd ["self", y] []) (m : Meth X.K C (dunderI op.info.2) f) (hc : PySem.W.selfFirst X.K C = true) (hx : Passes CX X E) :
    OpR X (inplaceOp op) (fun x z H Q => ∃ a dx fs, x = .ref a ∧ H a = some (.ins C dx fs) ∧ sp [.ref a, z] H (refQ Q) E) := by
  intro pins s σ H x z v u Q I rx rz h
  obtain ⟨a, dx, fs, rfl, ha, h⟩ := h
  cases rx
  obtain ⟨mA, O, _⟩ := ins_get I.hok ha
  obtain ⟨od, J, _⟩ := O.look
  obtain ⟨mm, FF⟩ := I.fr
  refine PySem.W.ksp_inplace FF I.ok.mod.kin J hc m.at_ m.fn ?_
  refine thn (run_fn (vs := [.ref a, z]) (us := [.ref a, u]) F hr hb .nil hx I (.cons rfl (.cons rz .nil)) (by simpa using h)) fun r s' hq => ?_
  obtain ⟨w, H', I', rw', p, rfl, q⟩ := hq
  cases rw'
  exact ⟨.ref p, H', I', rfl, q⟩
/-- a function within K -/
theorem fnIn_of {x qual : Str} {st : Stmt} (F : Fun X.K x qual st f fd) : PySem.W.fnIn X.K f = true := by
  obtain ⟨oc, od, kV, doc, pm, an, cdv, ct, osl, e, lk, _⟩ := F.ex
  unfold PySem.W.fnIn
  rw [lk]
/-- a method run from inside a built-in, that may raise -/
theorem run_ownX {pins : List (Addr × Obj)} {σ : L2.St} {H : Hp} {s : Shared} {ps : List Str} {us : List Value} {vs : List V} {Q : VK} (F : FnOk X.prog X.w X.K X.mg X.base CX k f fd ps sp) (hr : Room (k + 1) X.A) (hb : L2.Binds X.K fd ps []) (hx : Passes CX X E)
    (I : L2.Inv X pins σ H s) (r : Vals vs us) (h : sp vs H Q E) : wpAny (model X.prog X.w) X.A.in1 (call (.ref f) us) (EP X pins σ Q) X.xe s := by
  have hl : (us ++ []).length = ps.length := by rw [List.append_nil, ← r.length]; exact F.len _ _ _ _ h
  have hb' : BindsTo s fd ⟨us, []⟩ (ps.zip us) := by
    have := hb s us I.kIn hl
    rwa [List.append_nil] at this
  refine wpAny_call (codeAny_mono (F.run X.A.in1 X.stack s H ⟨us, []⟩ us vs Q E hr.in1 I.env0.in1 hb' r h) fun r s' hq => ?_)
  cases r with
  | error e => exact hx pins σ H s e s' I hq
  | ok fl =>
    cases fl with
    | ret u => exact I.after hq
    | next => exact False.elim hq
    | brk => exact False.elim hq
    | cont => exact False.elim hq
/-- o[v] -/
theorem pe_ixOwn {x qual : Str} {st : Stmt} {a b : Expr} {ta tb : TE} {pos : Pos} (F : FnOk X.prog X.w X.K X.mg X.base CX k f fd ["self", y] sp) (hr : Room (k + 1) X.A) (hb : L2.Binds X.K fd ["self", y] []) (m : Meth X.K C "__getitem__" f) (hn : Fun X.K x qual st f fd) (hx : Passes CX X E)
    (ha : PE X a ta) (hi : PE X b tb) (hsl : ∀ o i, subscripted b true o i = runValue (.builtin "lifetime.subscript" ⟨[o, i], []⟩)) :
    PE X (.Subscript a b pos) (tOp (fun x z H Q => ∃ a dx fs, x = .ref a ∧ H a = some (.ins C dx fs) ∧ sp [.ref a, z] H Q E) ta tb) := by
  refine ⟨fun pins s σ H Q I h => ?_⟩
  refine Subscript_ (binT ha hi I h fun v u s2 x z H2 I2 rx rz q => ?_)
  obtain ⟨a, dx, fs, rfl, hat, q⟩ := q
  cases rx
  obtain ⟨mA, O, _⟩ := ins_get I2.hok hat
  obtain ⟨od, J, _⟩ := O.look
  obtain ⟨mm, FF⟩ := I2.fr
  exact PySem.W.sub_K FF I2.ok.mod.kin J m.at_ (fnIn_of hn) m.fn (run_ownX (vs := [.ref a, z]) (us := [.ref a, u]) F hr hb hx I2 (.cons rfl (.cons rz .nil)) q) (hsl _ _)
/-- o.f as a target -/
def gFld (K : PySem.W.Frag) (ta : TE) (f : Str) : TG := fun v σ H Q => ta σ H fun x H2 => ∃ a C dx fs, x = .ref a ∧ H2 a = some (.ins C dx fs) ∧ Cls K C ∧ NoAttr K C f ∧ fs.length < 1000 ∧ Q σ (upd H2 a (.ins C dx (putF f v fs)))
theorem pg_fld {o : Expr} {ta : TE} {fl : Str} {pos : Pos} (ha : PE X o ta) : PG X (.Attribute o fl pos) (gFld X.K ta fl) := by
  refine ⟨fun pins s σ H v u Q I r h => ?_⟩
  rw [assign_Attribute]
  refine wpAny_bind (wpAny_holding (thn (ha.run pins s σ H _ I h) fun ov s1 hh => ?_))
  obtain ⟨x, H1, I1, rx, a, C, dx, fs, ex, ea, c, n, l, q⟩ := hh
  subst ex
  obtain rfl : ov = Value.ref a := rx
  refine wpAny_bind (wpAny_standAt (wpAny_bind (wpAny_holding (setattr_ok I1 ea c n l r fun s3 I3 => ?_))))
  exact wpAny_release ⟨σ, _, I3, q⟩
/-- e.f, e the error that the suite holds, of a class that is told later -/
def tXfA (K : PySem.W.Frag) (a : Addr) (cls : Value) (d : Option Addr) (f : Str) (te : TE) : TE := fun σ H Q => te σ H fun x H1 => x = .ref a ∧ ∃ (C dd : Addr) (fs : List (Str × V)) (v : V), cls = .ref C ∧ XfC K C ∧ PySem.W.findIn K (.ref C) f = some none ∧ d = some dd ∧ H1 dd = some (.xd fs) ∧ fs.lookup f = some v ∧ Q v H1
theorem pe_xfA {a : Addr} {oe : Obj} {cls : Value} {d : Option Addr} {pn : List (Addr × Obj)} {e : Expr} {te : TE} {pos : Pos} {n : Str}
    (hz : Zc cls d oe) (hf : ∃ vs, oe.data = .fields vs) (he : PE (X.suite a ((a, oe) :: pn)) e te) (hb : attributeBase e n X.env (eval e X.env) = eval e X.env := by rfl) :
    PE (X.suite a ((a, oe) :: pn)) (.Attribute e n pos) (tXfA X.K a cls d n te) := by
  refine ⟨fun pins s σ H Q I h => ?_⟩
  refine attr_of hb (thn (he.run pins s σ H _ I h) fun u s1 hh => ?_)
  obtain ⟨x, H1, I1, rx, ex, C, dd, fs, v, ec, T, hno, ed, ea, l, q⟩ := hh
  subst ex
  obtain rfl : u = Value.ref a := rx
  subst ec
  subst ed
  obtain ⟨ha, _⟩ := I1.pin (a, oe) (List.mem_append_left _ List.mem_cons_self)
  obtain ⟨vs, hd⟩ := hf
  have hx : ObjOk X.prog X.w H1 s1.heap dd (.xd fs) := I1.hok dd _ ea
  obtain ⟨mA, hns, hr⟩ := hx
  obtain ⟨od, ho, hl⟩ := lookIn_ns hns
  obtain ⟨u, hu, ru⟩ := RelO.some_of (v := v) (o := mA n) (by rw [← l]; exact hr n)
  have J : PySem.W.InstAt s1.heap a oe C (some od) := ⟨ha, hz.1, by unfold PySem.W.notCls; rw [hd] <;> rfl, by rw [hz.2]; exact ho⟩
  exact HandSPX.exc_get I1.kIn J T.ga T.gg T.exC (PySem.W.findObj_own T.hdC hno rfl (by rw [hl, hu])) (handed_of ru) ⟨v, H1, I1.tok _, ru, q⟩
/-- isinstance(e, c), e the error that the suite holds, of a class that is told later -/
def rIsA (K : PySem.W.Frag) (cls : Value) (d : Option Addr) (a : Addr) : List V → Hp → VK → Prop := fun xs H Q => ∃ D, ExcC K D ∧ (rIsD K cls d D a xs H Q ∨ (cls = .ref D ∧ d = none ∧ rIsE K D a xs H Q))
theorem call_isA {a : Addr} {oe : Obj} {cls : Value} {d : Option Addr} {pn : List (Addr × Obj)} (hz : Zc cls d oe) (hf : ∃ vs, oe.data = .fields vs) : CallR (X.suite a ((a, oe) :: pn)) (.builtin "isinstance") (rIsA X.K cls d a) := by
  intro pins s σ H xs us Q I r h
  obtain ⟨D, c, h | ⟨rfl, rfl, h⟩⟩ := h
  · exact call_isD c hz hf pins s σ H xs us Q I r h
  · exact call_isE c hz hf pins s σ H xs us Q I r h
end
/-- x(..), x a variable that holds one of two known functions -/
def tCallV (f g : Addr) (sp sp2 : Sp) (E : XK) (tx : TE) (t : TA) : TE := fun σ H Q => tx σ H fun x H0 => (x = .ref f ∧ t σ H0 fun vs H1 => sp vs H1 Q E) ∨ (x = .ref g ∧ t σ H0 fun vs H1 => sp2 vs H1 Q E)
theorem pe_callV {X : Cx} {f g : Addr} {fd gd : FuncData} {k k2 : Nat} {sp sp2 : Sp} {CX : CXT} {E : XK} {ps qs : List Str} {x : Str} {e : Expr} {es : List Expr} {tx : TE} {t : TA} {p pos : Pos}
    (hn : PE X (.Name x p) tx) (F : FnOk X.prog X.w X.K X.mg X.base CX k f fd ps sp) (hr : Room k X.A) (hk : PySem.W.keepIn X.K (.ref f) = true) (hb : L2.Binds X.K fd ps [])
    (G : FnOk X.prog X.w X.K X.mg X.base CX k2 g gd qs sp2) (hr2 : Room k2 X.A) (hk2 : PySem.W.keepIn X.K (.ref g) = true) (hb2 : L2.Binds X.K gd qs []) (hx : Passes CX X E)
    (ha : PA X (e :: es) t) (he : starEach (e :: es) X.env = (false, eval e X.env) :: starEach es X.env := by rfl) (hpl : (backTo pos (starEach es X.env)).any (·.1) = false := by rfl) :
    PE X (.Call (.Name x p) (e :: es) [] pos) (tCallV f g sp sp2 E tx t) := by
  refine ⟨fun pins s σ H Q I h => ?_⟩
  refine wpAny_Call_Name_kw (thn (hn.run pins s σ H _ I h) fun u s0 hh => ?_)
  obtain ⟨x, H0, I0, rx, ⟨ex, q⟩ | ⟨ex, q⟩⟩ := hh
  · subst ex
    obtain rfl : u = Value.ref f := rx
    refine PySem.W.callWith_K (h₀ := X.base) I.ok.mod.kin hk (thn (ha.run pos pins s0 σ H0 _ I0 q) fun us s1 hh => ?_) he hpl
    obtain ⟨vs, H1, I1, r, q1⟩ := hh
    exact ⟨I1.kIn, run_fn F hr hb .nil hx I1 r (by simpa using q1)⟩
  · subst ex
    obtain rfl : u = Value.ref g := rx
    refine PySem.W.callWith_K (h₀ := X.base) I.ok.mod.kin hk2 (thn (ha.run pos pins s0 σ H0 _ I0 q) fun us s1 hh => ?_) he hpl
    obtain ⟨vs, H1, I1, r, q1⟩ := hh
    exact ⟨I1.kIn, run_fn G hr2 hb2 .nil hx I1 r (by simpa using q1)⟩
/-- o.m(c = , d = , b = , a = ) -/
def md4 {α : Type} : List α → List α → List α
  | [s], [u, v, w, x] => [s, x, w, u, v]
  | _, _ => []
theorem md4_rel {vs : List V} {us : List Value} {zs : List V} {ws : List Value} (r : Vals vs us) (t : Vals zs ws) : Vals (md4 vs zs) (md4 us ws) := by
  match vs, us, r with
  | [], _, .nil => exact .nil
  | _ :: _ :: _, _, .cons _ (.cons _ _) => exact .nil
  | [_], _, .cons a .nil =>
    match zs, ws, t with
    | [], _, .nil => exact .nil
    | [_], _, .cons _ .nil => exact .nil
    | [_, _], _, .cons _ (.cons _ .nil) => exact .nil
    | [_, _, _], _, .cons _ (.cons _ (.cons _ .nil)) => exact .nil
    | [_, _, _, _], _, .cons b (.cons c (.cons d (.cons e .nil))) => exact .cons a (.cons e (.cons d (.cons b (.cons c .nil))))
    | _ :: _ :: _ :: _ :: _ :: _, _, .cons _ (.cons _ (.cons _ (.cons _ (.cons _ _)))) => exact .nil
theorem kbm4 {K : PySem.W.Frag} {x qual a b c d : Str} {st : Stmt} {f : Addr} {fd : FuncData} (F : Fun K x qual st f fd)
    (h : ∀ (kV doc pm : Value) (an : Option Addr) (cdv ct s u v w y : Value), bindArgs (PySem.W.fnOf x qual (defArgs st) (defBody st) (defScope st) .none kV doc pm an cdv ct) ⟨[s], [(c, u), (d, v), (b, w), (a, y)]⟩ = pure [(("self" : Str), s), (a, y), (b, w), (c, u), (d, v)]) : KBinds K fd ["self", a, b, c, d] [c, d, b, a] md4 md4 := by
  refine ⟨fun s us ws X hl => ?_, md4_rel⟩
  obtain ⟨oc, od, kV, doc, pm, an, cdv, ct, osl, rfl, lk, hcd⟩ := F.ex
  match us, ws, hl with
  | [s], [u, v, w, y], _ => exact .of_eq (h kV doc pm an cdv ct s u v w y)
end L3
namespace Lw
open PySem PySem.Spec PyProof.Rows L3
open L2 hiding del del_same del_ne
/-- raises OtherLetters -/
def Oz (C : Addr) (x y : List Nat) (H : Hp) (E : XK) : Prop := ∀ H' e, Same H H' → H' e = some (.xd [("other", tx y), ("one", tx x)]) → E (.ref C) (some e) H'
theorem Oz.same {C : Addr} {x y : List Nat} {H H1 : Hp} {E : XK} (h : Oz C x y H E) (s : Same H H1) : Oz C x y H1 E := fun H' e s' he => h H' e (s.trans s') he
def overD (sg : List Nat) : PyData → Bool
  | .str x => x.cps.toList.all fun c => decide (c ∈ sg)
  | _ => false
section
variable {w : World} {K : PySem.W.Frag} {mg : Str → Option Value} {base : Heap}
/-- a value that is refused in the place of a machine -/
def BadM (T : All K mg) (H : Hp) (E : XK) (sg : List Nat) (v : V) : Prop :=
  (∃ t, TyX K H v (.type t) ∧ plainTy t = true ∧ Rz T.C_InvalidMachine "value" v H E) ∨
  (∃ (b : Addr) (sg2 : List Nat) (S : List (List Nat)) (l : List Bool), v = .ref b ∧ Mach T.C_Machine K H b sg2 S l ∧ sg ≠ sg2 ∧ Oz T.C_OtherLetters sg sg2 H E)
theorem kit_str (T : All K mg) : PySem.W.kitOne K (.ref T.C_Machine) (.type "str") = some false := by
  have h := of_decide_eq_true T.nst
  show (if (Value.ref T.C_Machine == Value.type "str") = true then some true else PySem.W.kitCls K _ _) = _
  rw [if_neg (by intro z; cases beq_iff_eq.mp z)]
  show (if PySem.W.kitMeta "str" = true then PySem.W.subIn K (.ref T.C_Machine) (.type "str") else none) = _
  rw [if_pos (by decide +kernel)]
  exact h
def spTextG (K : PySem.W.Frag) : Sp := fun vs H Q _ => ∃ sg v, vs = [tx sg, v] ∧ ((∃ t, v = tx t ∧ t.length ≤ 1000 ∧ ∀ H', Same H H' → Q (.bl (t.all fun c => decide (c ∈ sg))) H') ∨ (∃ tv, TyX K H v tv ∧ PySem.W.kitOne K tv (.type "str") = some false ∧ Q (.bl false) H))
theorem ok_is_text_overG {P : Program} (T : All K mg) : FnOk P w K mg base CX0 1 T.f_is_text_over T.d_is_text_over ["letters", "value"] (spTextG K) := by
  refine T.is_text_over.F.ok sc_is_text_over (fun vs H Q E h => ?_) (fun cdv A outer s H vs Q E hr h => ?_)
  · obtain ⟨l, v, rfl, _⟩ := h
    rfl
  · obtain ⟨sg, v, rfl, h⟩ := h
    refine ⟨_, pss_one (ps_ret (pe_and (pe_callB call_isi (by rfl) T.b_isinstance boot_isinstance (pa_cons (pv 1) (pa_cons (pe_bltn (v := .ty "str") (by rfl) T.b_str (by decide +kernel) rfl) pa_nil)))
        (pe_one (pe_callB (cr_all rfl) (by rfl) T.b_all PyProof.Rows.boot_all (pa_cons (pe_lc (own := [("sign", 2)]) (g := gName 2) (tt := tYes) rfl sc_is_text_over.nd (pi_str (pv 1))
          (blkOk_by (own := [("sign", 2)]) (N := ["letters", "value", "sign"]) (sc := defScope s_is_text_over) (by decide +kernel))
          (fun _ _ _ _ _ => pg_name (i := 2) sc_is_text_over.nd rfl (by first | exact Or.inl rfl | exact Or.inr rfl)) (fun _ _ _ _ _ => pts_nil)
          (fun _ _ _ _ _ => (pe_cmpR op_in_sign (pv 2) (pv 0) (by rfl)))) pa_nil))))), ?_⟩
    rcases h with ⟨t, rfl, hz, q⟩ | ⟨tv, hty, hk, q⟩
    · refine ⟨tx t, rfl, tx t, .ty "str", .type "str", .type "str", true, rfl, .ty _, .base (.str _), kit_ty (by decide +kernel), true, rfl, iteT ?_⟩
      refine ⟨tx t, rfl, tS t, rfl, fun D nD => ?_⟩
      refine lc_gen walk_tx (Same H) (fun i acc => acc = ((t.take i).map fun c => decide (c ∈ sg)).map V.bl) (sz (by omega)) (fun i acc e => by rw [e]; simp; omega) rfl (same_upd nD) (fun _ _ h => same_up h nD) (fun _ _ => trivial) (fun i x H2 H3 acc C N hi r hD ha y c n => ?_) (fun H2 xs r hD ha => ?_)
      · obtain ⟨rfl, ch, hc, rfl⟩ := y
        refine ⟨rfl, yes_te ?_⟩
        refine ⟨_, rfl, _, rfl, ch, tS sg, rfl, rfl, ?_⟩
        refine c _ _ r hD ?_
        rw [ha, List.take_add_one, hc]
        simp [tS]
      · subst ha
        rw [List.take_length] at hD
        refine ⟨D, t.map fun c => decide (c ∈ sg), rfl, .inl (.inl hD), ?_⟩
        have e : (t.map fun c => decide (c ∈ sg)).all id = t.all fun c => decide (c ∈ sg) := by rw [List.all_map]; rfl
        rw [e]
        exact q _ r
    · exact ⟨v, rfl, v, .ty "str", tv, .type "str", false, rfl, .ty _, hty, hk, false, rfl, iteF q⟩
def spWantTextA (K : PySem.W.Frag) (Ce : Addr) : Sp := fun vs H Q E => ∃ (sg : List Nat) (v : V) (d : PyData), vs = [tx sg, v] ∧ DpD K H v d ∧ shortD d ∧ (overD sg d = true → ∀ H', Same H H' → Q .non H') ∧ (overD sg d = false → Rz Ce "value" v H E)
theorem ok_want_textA (T : All K mg) : FnOk PW w K mg base (L2.CX PW w) 2 T.f_want_text T.d_want_text ["letters", "text"] (spWantTextA K T.C_InvalidText) := by
  refine T.want_text.F.okX sc_want_text (fun vs H Q E h => ?_) (fun cdv A outer s H vs Q E hr h => ?_)
  · obtain ⟨sg, v, d, rfl, _⟩ := h
    rfl
  · obtain ⟨sg, v, d, rfl, hd, hz, q, qE⟩ := h
    refine ⟨_, pss_one (ps_if (pt_not (pt_val (pe_call (ok_is_text_overG T) (hr.mono (by decide)) (by rfl) T.is_text_over.g T.is_text_over.F.kp T.is_text_over.b .nil pass0 (pa_cons (pv 0) (pa_cons (pv 1) pa_nil))))) (pss_one (ps_raise1 rfl T.er_InvalidText.er (hr.mono (by decide)) (takes_of rfl rfl rfl rfl) T.g_InvalidText (pa_cons (pv 1) pa_nil))) pss_nil), ?_⟩
    try dsimp only [cxOf]
    by_cases hs : ∃ x, d = .str x
    · obtain ⟨x, rfl⟩ := hs
      have ev := dpd_text hd
      have hz : x.cps.toList.length ≤ 1000 := hz
      subst ev
      refine ⟨_, rfl, _, rfl, sg, _, rfl, .inl ⟨x.cps.toList, rfl, by omega, fun H1 s1 => ?_⟩⟩
      have eo : overD sg (.str x) = x.cps.toList.all fun c => decide (c ∈ sg) := rfl
      cases ha : x.cps.toList.all fun c => decide (c ∈ sg)
      · exact ⟨false, rfl, iteT ⟨_, rfl, _, rfl, fun e ne => qE (eo.trans ha) _ e (s1.trans (same_upd ne)) upd_same⟩⟩
      · exact ⟨true, rfl, iteF (q (eo.trans ha) _ s1)⟩
    · have hs : ∀ x, d ≠ .str x := fun x e => hs ⟨x, e⟩
      have e0 : overD sg d = false := by cases d <;> first | rfl | exact absurd rfl (hs _)
      refine ⟨_, rfl, _, rfl, sg, v, rfl, .inr ⟨.type (tyD d), tyx_dpD hd, kit_ty (kb_str hs), ?_⟩⟩
      exact ⟨false, rfl, iteT ⟨_, rfl, _, rfl, fun e ne => qE e0 _ e (same_upd ne) upd_same⟩⟩
def spSameA (K : PySem.W.Frag) (C Ce : Addr) : Sp := fun vs H Q E => ∃ (a b : Addr) (sg sg2 : List Nat) (R S : List (List Nat)) (k l : List Bool), vs = [.ref a, .ref b] ∧ Mach C K H a sg R k ∧ Mach C K H b sg2 S l ∧ (sg = sg2 → Q .non H) ∧ (sg ≠ sg2 → Oz Ce sg sg2 H E)
theorem ok_want_sameA (T : All K mg) : FnOk PW w K mg base (L2.CX PW w) 2 T.f_want_same T.d_want_same ["one", "other"] (spSameA K T.C_Machine T.C_OtherLetters) := by
  refine T.want_same.F.okX sc_want_same (fun vs H Q E h => ?_) (fun cdv A outer s H vs Q E hr h => ?_)
  · obtain ⟨a, b, sg, sg2, R, S, k, l, rfl, _⟩ := h
    rfl
  · obtain ⟨a, b, sg, sg2, R, S, k, l, rfl, hM, hN, q, qE⟩ := h
    obtain ⟨dx, r, qq, hat, _⟩ := hM.at_
    obtain ⟨dy, r', qq', hbt, _⟩ := hN.at_
    refine ⟨_, pss_one (ps_if (pt_cmpR op_ne (pe_fld (pv 0) rfl) (pe_fld (pv 1) rfl) (nomark _)) (pss_one (ps_raise2 rfl T.er_OtherLetters.er (hr.mono (by decide)) (takes_of rfl rfl rfl rfl) T.g_OtherLetters (pa_cons (pe_fld (pv 0) rfl) (pa_cons (pe_fld (pv 1) rfl) pa_nil)))) pss_nil), ?_⟩
    try dsimp only [cxOf]
    refine ⟨_, rfl, a, T.C_Machine, dx, _, _, rfl, hat, T.cl_Machine, T.n_Machine_own_letters, rfl, _, rfl, b, T.C_Machine, dy, _, _, rfl, hbt, T.cl_Machine, T.n_Machine_own_letters, rfl, rfl, _, rfl, ?_⟩
    by_cases h : sg = sg2
    · exact ite_f (by simp [h]) (q h)
    · refine ite_t ?_ ⟨_, rfl, a, T.C_Machine, dx, _, _, rfl, hat, T.cl_Machine, T.n_Machine_own_letters, rfl, _, rfl, b, T.C_Machine, dy, _, _, rfl, hbt, T.cl_Machine, T.n_Machine_own_letters, rfl, _, _, rfl, fun e ne => qE h _ e (same_upd ne) upd_same⟩
      simp [h]
def spRightA (T : All K mg) : Sp := fun vs H Q E => ∃ (a : Addr) (v : V) (sg : List Nat) (R : List (List Nat)) (k : List Bool), vs = [.ref a, v] ∧ Mach T.C_Machine K H a sg R k ∧
  ((∃ (b : Addr) (S : List (List Nat)) (l : List Bool), v = .ref b ∧ Mach T.C_Machine K H b sg S l ∧ Q .non H) ∨ BadM T H E sg v)
theorem ok_want_rightA (T : All K mg) : FnOk PW w K mg base (L2.CX PW w) 3 T.f_want_right T.d_want_right ["machine", "value"] (spRightA T) := by
  refine T.want_right.F.okX sc_want_right (fun vs H Q E h => ?_) (fun cdv A outer s H vs Q E hr h => ?_)
  · obtain ⟨a, v, sg, R, k, rfl, _⟩ := h
    rfl
  · obtain ⟨a, v, sg, R, k, rfl, hM, h⟩ := h
    refine ⟨_, pss_cons (ps_if (pt_not (pt_val (pe_callB call_isi (by rfl) T.b_isinstance boot_isinstance (pa_cons (pv 1) (pa_cons (pe_glob (v := .ref T.C_Machine) rfl T.g_Machine rfl) pa_nil))))) (pss_one (ps_raise1 rfl T.er_InvalidMachine.er (hr.mono (by decide)) (takes_of rfl rfl rfl rfl) T.g_InvalidMachine (pa_cons (pv 1) pa_nil))) pss_nil)
      (pss_one (ps_expr (pe_call (ok_want_sameA T) (hr.mono (by decide)) (by rfl) T.want_same.g T.want_same.F.kp T.want_same.b .nil (passes_call (takes_of rfl rfl rfl rfl) (fun _ _ _ _ h => h)) (pa_cons (pv 0) (pa_cons (pv 1) pa_nil))))), ?_⟩
    try dsimp only [cxOf]
    rcases h with ⟨b, S, l, rfl, hN, q⟩ | ⟨t, ht, hp, hE⟩ | ⟨b, sg2, S, l, rfl, hN, hne, hE⟩
    · exact ⟨_, rfl, _, .ref T.C_Machine, .ref T.C_Machine, .ref T.C_Machine, true, rfl, .own _, ty_mach T hN, kit_own T, true, rfl, iteF ⟨_, rfl, _, rfl, a, b, sg, sg, R, S, k, l, rfl, hM, hN, fun _ => q, fun z => absurd rfl z⟩⟩
    · exact ⟨_, rfl, v, .ref T.C_Machine, .type t, .ref T.C_Machine, false, rfl, .own _, ht, kit_plain T hp, false, rfl, iteT ⟨_, rfl, _, rfl, fun e ne => hE _ e (same_upd ne) upd_same⟩⟩
    · exact ⟨_, rfl, _, .ref T.C_Machine, .ref T.C_Machine, .ref T.C_Machine, true, rfl, .own _, ty_mach T hN, kit_own T, true, rfl, iteF ⟨_, rfl, _, rfl, a, b, sg, sg2, R, S, k, l, rfl, hM, hN, fun z => absurd z hne, fun _ => hE⟩⟩
def spPairA (T : All K mg) (f : Bool → Bool → Bool) : Sp := fun vs H Q E => ∃ (a : Addr) (v : V) (sg : List Nat) (R : List (List Nat)) (k : List Bool), vs = [.ref a, v] ∧ Mach T.C_Machine K H a sg R k ∧
  ((∃ (b : Addr) (S : List (List Nat)) (l : List Bool), v = .ref b ∧ Mach T.C_Machine K H b sg S l ∧ R.length * S.length ≤ 40 ∧ NewM K T.C_Machine H Q sg (M16.pairR R S) (M16.pairK f R S k l)) ∨ BadM T H E sg v)
theorem ok_Machine_orA (T : All K mg) : FnOk PW w K mg base (L2.CX PW w) 8 T.f_Machine_or T.d_Machine_or ["self", "other"] (spPairA T or) := by
  refine T.Machine_or.F.okX sc_Machine_or (fun vs H Q E h => ?_) (fun cdv A outer s H vs Q E hr h => ?_)
  · obtain ⟨a, v, sg, R, k, rfl, _⟩ := h
    rfl
  · obtain ⟨a, v, sg, R, k, rfl, hM, h⟩ := h
    refine ⟨_, pss_cons (ps_expr (pe_call (ok_want_rightA T) (hr.mono (by decide)) (by rfl) T.want_right.g T.want_right.F.kp T.want_right.b .nil (passes_call (takes_of rfl rfl rfl rfl) (fun _ _ _ _ h => h)) (pa_cons (pv 0) (pa_cons (pv 1) pa_nil))))
      (pss_one (ps_ret (pe_call (ok_paired_by T) (hr.mono (by decide)) (by rfl) T.paired_by.g T.paired_by.F.kp T.paired_by.b .nil pass0 (pa_cons (pv 0) (pa_cons (pv 1) (pa_cons pe_str pa_nil)))))), ?_⟩
    try dsimp only [cxOf]
    rcases h with ⟨b, S, l, rfl, hN, hz, q⟩ | h
    · exact ⟨_, rfl, _, rfl, a, _, sg, R, k, rfl, hM, .inl ⟨b, S, l, rfl, hN, _, rfl, _, rfl, a, b, _, or, sg, R, S, k, l, rfl, .either, hM, hN, hz, q⟩⟩
    · exact ⟨_, rfl, _, rfl, a, _, sg, R, k, rfl, hM, .inr h⟩
theorem ok_Machine_subA (T : All K mg) : FnOk PW w K mg base (L2.CX PW w) 8 T.f_Machine_sub T.d_Machine_sub ["self", "other"] (spPairA T fun a b => a && !b) := by
  refine T.Machine_sub.F.okX sc_Machine_sub (fun vs H Q E h => ?_) (fun cdv A outer s H vs Q E hr h => ?_)
  · obtain ⟨a, v, sg, R, k, rfl, _⟩ := h
    rfl
  · obtain ⟨a, v, sg, R, k, rfl, hM, h⟩ := h
    refine ⟨_, pss_cons (ps_expr (pe_call (ok_want_rightA T) (hr.mono (by decide)) (by rfl) T.want_right.g T.want_right.F.kp T.want_right.b .nil (passes_call (takes_of rfl rfl rfl rfl) (fun _ _ _ _ h => h)) (pa_cons (pv 0) (pa_cons (pv 1) pa_nil))))
      (pss_one (ps_ret (pe_call (ok_paired_by T) (hr.mono (by decide)) (by rfl) T.paired_by.g T.paired_by.F.kp T.paired_by.b .nil pass0 (pa_cons (pv 0) (pa_cons (pv 1) (pa_cons pe_str pa_nil)))))), ?_⟩
    try dsimp only [cxOf]
    rcases h with ⟨b, S, l, rfl, hN, hz, q⟩ | h
    · exact ⟨_, rfl, _, rfl, a, _, sg, R, k, rfl, hM, .inl ⟨b, S, l, rfl, hN, _, rfl, _, rfl, a, b, _, _, sg, R, S, k, l, rfl, .first, hM, hN, hz, q⟩⟩
    · exact ⟨_, rfl, _, rfl, a, _, sg, R, k, rfl, hM, .inr h⟩
end
end Lw
namespace L3
open PySem PySem.Spec PyProof.Rows L2
section
variable {X : Cx}
theorem op_eqLen (hu : X.A.units + 64 < cLine) : OpR X (compareOp .Eq) (fun x y H Q => ∃ (l r : Addr) (L M : List V), x = .ref l ∧ y = .ref r ∧ SqL X.K H l L ∧ SqL X.K H r M ∧ L.length ≠ M.length ∧ Q (.bl false) H) := by
  intro pins s σ H x y v u Q I rx ry h
  obtain ⟨l, r, L, M, rfl, rfl, hl, hr, hz, q⟩ := h
  cases rx
  cases ry
  obtain ⟨its, r1, pl, hz1⟩ := I.list hl
  obtain ⟨jts, r2, pm, hz2⟩ := I.list hr
  have n1 := r1.length
  have n2 := r2.length
  obtain ⟨⟨c1, d1, da1, s1⟩, ho1, hc1, m1, hd1⟩ := id pl.isList
  obtain ⟨⟨c2, d2, da2, s2⟩, ho2, hc2, m2, hd2⟩ := id pm.isList
  simp only at hc1 hd1 hc2 hd2
  subst hc1 hd1 hc2 hd2
  show wpAny _ _ (richCompare .Eq (.ref l) (.ref r)) _ _ _
  refine wpAny_richCompare_same_room (T := "list") (op := .Eq) ⟨_, ho1, rfl⟩ ⟨_, ho2, rfl⟩ F.slot_list_eq ?_ (by omega)
  refine wpAny_call (codeAny_call_builtin F.slot_list_eq.plain F.entry_list_eq (F.slot_list_eq.check _ _ _ _ _ _ _ _ ⟨_, ho1, rfl⟩ (F.args_list_eq_2 _ _) ?_))
  have I0 := I
  obtain ⟨hp, g, d, tk, os⟩ := s
  have f3 := AutoSeq1.sub_list_list
  have hne : (its.toArray.size != jts.toArray.size) = true := by simp; omega
  wp_walk using wpAny_loadPart' ho1, wpAny_loadPart' ho2
  refine wpAny_ite_split (fun _ => ?_) (fun z => absurd hne z)
  wp_walk
  exact ⟨(fun z => by cases z), .bl false, H, I0, rfl, q⟩
theorem op_eqNil (hu : X.A.units + 64 < cLine) : OpR X (compareOp .Eq) (fun x y H Q => ∃ (l r : Addr) (L : List V), x = .ref l ∧ y = .ref r ∧ SqL X.K H l L ∧ H r = some (.lst []) ∧ ∀ H', Same H H' → Q (.bl (decide (L = []))) H') := by
  intro pins s σ H x y v u Q I rx ry h
  obtain ⟨l, r, L, rfl, rfl, hl, hr, q⟩ := h
  by_cases hL : L = []
  · subst hL
    refine op_eqL hu pins s σ H _ _ v u Q I rx ry ⟨l, r, [], [], fun _ => true, rfl, rfl, fun H' sm => sq_same hl sm, fun H' sm => .inl (.inl (sm _ _ hr)), rfl, fun i x y e => (by cases e), fun H' sm => ?_⟩
    exact q H' sm
  · refine op_eqLen hu pins s σ H _ _ v u Q I rx ry ⟨l, r, L, [], rfl, rfl, hl, .inl (.inl hr), fun z => hL (List.length_eq_zero_iff.mp z), ?_⟩
    have := q H (Same.refl _)
    rw [decide_eq_false hL] at this
    exact this
theorem op_eqNilK {K : PySem.W.Frag} (h : X.K = K) (hu : X.A.units + 64 < cLine) : OpR X (compareOp .Eq) (fun x y H Q => ∃ (l r : Addr) (L : List V), x = .ref l ∧ y = .ref r ∧ SqL K H l L ∧ H r = some (.lst []) ∧ ∀ H', Same H H' → Q (.bl (decide (L = []))) H') := h ▸ op_eqNil hu
end
end L3
namespace Lw
open PySem PySem.Spec PyProof.Rows L3
open L2 hiding del del_same del_ne
def hide (l : List Addr) (H : Hp) : Hp := fun b => if b ∈ l then none else H b
theorem hide_out {l : List Addr} {H : Hp} {b : Addr} (h : b ∉ l) : hide l H b = H b := if_neg h
theorem hide_some {l : List Addr} {H : Hp} {b : Addr} {o : HO} (h : hide l H b = some o) : b ∉ l ∧ H b = some o := by
  unfold hide at h
  by_cases m : b ∈ l
  · rw [if_pos m] at h; cases h
  · rw [if_neg m] at h; exact ⟨m, h⟩
theorem hide_le {l : List Addr} {H : Hp} : Same (hide l H) H := fun b o e => (hide_some e).2
theorem hide_upd {l : List Addr} {H : Hp} {a : Addr} {o : HO} (h : a ∈ l) : hide l (upd H a o) = hide l H := by
  funext b
  unfold hide
  by_cases m : b ∈ l
  · rw [if_pos m, if_pos m]
  · rw [if_neg m, if_neg m, upd_ne (fun e => m (by rw [e]; exact h))]
/-- all but the objects of l and the tables stays -/
def Kp (l : List Addr) (H H' : Hp) : Prop := ∀ b o, H b = some o → b ∉ l → (∀ ps, o ≠ .tbl ps) → H' b = some o
theorem Kp.refl (l : List Addr) (H : Hp) : Kp l H H := fun _ _ e _ _ => e
theorem Kp.trans {l : List Addr} {H H1 H2 : Hp} (a : Kp l H H1) (b : Kp l H1 H2) : Kp l H H2 := fun p o e n t => b p o (a p o e n t) n t
theorem Kp.same {l : List Addr} {H H' : Hp} (s : Same H H') : Kp l H H' := fun p o e _ _ => s p o e
theorem Kp.ext {l : List Addr} {H H' : Hp} (s : LamX.ExtN H H') : Kp l H H' := fun p o e _ t => s p o e t
theorem Kp.mono {l m : List Addr} {H H' : Hp} (s : Kp l H H') (h : ∀ b ∈ l, b ∈ m) : Kp m H H' := fun p o e n t => s p o e (fun z => n (h _ z)) t
theorem Kp.of_hide {l : List Addr} {H H' : Hp} (s : Same (hide l H) (hide l H')) : Kp l H H' := fun p o e n _ => (hide_some (s p o (by rw [hide_out n]; exact e))).2
theorem Kp.hide {l : List Addr} {H H' : Hp} (s : Kp l H H') : LamX.ExtN (hide l H) (hide l H') := fun p o e t => by
  obtain ⟨n, e⟩ := hide_some e
  rw [hide_out n]
  exact s p o e n t
theorem Kp.upd {l : List Addr} {H : Hp} {a : Addr} {o : HO} (h : a ∈ l) : Kp l H (upd H a o) := fun p u e n _ => by
  rw [upd_ne (fun z => n (by rw [z]; exact h))]
  exact e
theorem Kp.at_ {l : List Addr} {H H' : Hp} (s : Kp l H H') {b : Addr} {o : HO} (h : H b = some o) (n : b ∉ l) (t : ∀ ps, o ≠ .tbl ps) : H' b = some o := s b o h n t
theorem hide_mono {l : List Addr} {H H' : Hp} (s : Same H H') : Same (hide l H) (hide l H') := fun b o e => by
  obtain ⟨m, e⟩ := hide_some e
  rw [hide_out m]
  exact s _ _ e
/-- what is stored anew: lists, own objects -/
def Loose (H : Hp) (b : Addr) : Prop := (∃ xs, H b = some (.lst xs)) ∨ ∃ C dx fs, H b = some (.ins C dx fs)
theorem Loose.same {H H' : Hp} {b : Addr} (h : Loose H b) (s : Same H H') : Loose H' b := by
  rcases h with ⟨xs, h⟩ | ⟨C, dx, fs, h⟩
  · exact .inl ⟨xs, s _ _ h⟩
  · exact .inr ⟨C, dx, fs, s _ _ h⟩
theorem Loose.some {H : Hp} {b : Addr} (h : Loose H b) (n : H b = none) : False := by
  rcases h with ⟨xs, h⟩ | ⟨C, dx, fs, h⟩ <;> (rw [n] at h; cases h)
theorem Loose.kp {l : List Addr} {H H' : Hp} {b : Addr} (h : Loose H b) (s : Kp l H H') (n : b ∉ l) : Loose H' b := by
  rcases h with ⟨xs, h⟩ | ⟨C, dx, fs, h⟩
  · exact .inl ⟨xs, s _ _ h n (fun ps z => by cases z)⟩
  · exact .inr ⟨C, dx, fs, s _ _ h n (fun ps z => by cases z)⟩
def LooseL (l : List Addr) (H : Hp) : Prop := ∀ b ∈ l, Loose H b
theorem LooseL.same {l : List Addr} {H H' : Hp} (h : LooseL l H) (s : Same H H') : LooseL l H' := fun b m => (h b m).same s
theorem LooseL.out {l : List Addr} {H : Hp} (h : LooseL l H) {b : Addr} (n : H b = none) : b ∉ l := fun m => (h b m).some n
theorem LooseL.kp {l m : List Addr} {H H' : Hp} (h : LooseL l H) (s : Kp m H H') (hm : ∀ b ∈ m, Loose H' b) : LooseL l H' := fun b z => by
  by_cases n : b ∈ m
  · exact hm b n
  · exact (h b z).kp s n
/-- a tuple is not loose -/
theorem loose_tup {K : PySem.W.Frag} {l : List Addr} {H : Hp} (hl : LooseL l H) {a : Addr} {xs : List V} (h : SqT K H a xs) : SqT K (hide l H) a xs := by
  have out : ∀ o, H a = some o → (∀ ys, o ≠ .lst ys) → (∀ C dx fs, o ≠ .ins C dx fs) → hide l H a = some o := fun o e n1 n2 => by
    rw [hide_out]
    · exact e
    · intro m
      rcases hl a m with ⟨ys, z⟩ | ⟨C, dx, fs, z⟩
      · rw [e] at z; exact n1 ys (Option.some.inj z)
      · rw [e] at z; exact n2 C dx fs (Option.some.inj z)
  rcases h with (h | ⟨o, h⟩) | h
  · exact .inl (.inl (out _ h (fun _ z => by cases z) fun _ _ _ z => by cases z))
  · exact .inl (.inr ⟨o, out _ h (fun _ z => by cases z) fun _ _ _ z => by cases z⟩)
  · exact .inr h
theorem Mach.hid {C : Addr} {K : PySem.W.Frag} {H : Hp} {l : List Addr} {a : Addr} {sg : List Nat} {R : List (List Nat)} {k : List Bool} (h : Mach C K H a sg R k) (hl : LooseL l H) (n : a ∉ l) : Mach C K (hide l H) a sg R k := by
  obtain ⟨⟨dx, r, q, h1, h2, h3⟩, h4, h5⟩ := h
  refine ⟨⟨dx, r, q, by rw [hide_out n]; exact h1, ?_, loose_tup hl h3⟩, h4, h5⟩
  obtain ⟨b, xs, e, hS, hA⟩ := dp_tuple h2
  cases e
  refine .tup (loose_tup hl hS) (dpAll_of (dpAll_len hA) fun i x d h1 h2 => ?_)
  obtain ⟨d', h3, h4⟩ := dpAll_back hA h1
  rw [h2] at h3
  cases h3
  rw [List.getElem?_map] at h2
  obtain ⟨r, _, rfl⟩ := Option.map_eq_some_iff.mp h2
  obtain ⟨b, ys, rfl, hS2, hA2⟩ := dp_tuple h4
  rw [dpAll_nats hA2] at hS2
  exact .tup (loose_tup hl hS2) (dpAll_nV r)
theorem Mach.ext {C : Addr} {K : PySem.W.Frag} {H H' : Hp} {a : Addr} {sg : List Nat} {R : List (List Nat)} {k : List Bool} (h : Mach C K H a sg R k) (e : LamX.ExtN H H') : Mach C K H' a sg R k := by
  obtain ⟨⟨dx, r, q, h1, h2, h3⟩, h4, h5⟩ := h
  exact ⟨⟨dx, r, q, e _ _ h1 (fun ps z => by cases z), dp_ext e h2, sqT_ext h3 e⟩, h4, h5⟩
theorem cutLast (l : List V) (a : V) : cutV (l ++ [a]) none (some (-1)) = l := by
  unfold cutV
  have e : HT.sIx (l ++ [a]).length (l ++ [a]).length (some (-1)) = l.length := by
    show (if ((-1 : Int) < 0) then ((-1 : Int) + ((l ++ [a]).length : Int)).toNat else min (-1 : Int).toNat (l ++ [a]).length) = _
    rw [if_pos (by decide), List.length_append, List.length_singleton]
    omega
  rw [e, HT.sIx_none, List.drop_zero, Nat.sub_zero, List.take_append_of_le_length (Nat.le_refl _), List.take_length]
theorem atLast (l : List V) (a : V) : atI (l ++ [a]) (-1) = some a := by
  have e : ixN (l ++ [a]).length (-1) = some l.length := by
    unfold ixN
    rw [if_neg (by decide), List.length_append, List.length_singleton]
    rw [if_pos (by omega)]
    congr 1
    omega
  unfold atI
  rw [e]
  show (l ++ [a])[l.length]? = some a
  simp
/-- a machine as rows and kinds -/
abbrev MV := List (List Nat) × List Bool
abbrev MachV (C : Addr) (K : PySem.W.Frag) (H : Hp) (a : Addr) (sg : List Nat) (m : MV) : Prop := Mach C K H a sg m.1 m.2
/-- pairs of machines, one tuple for each -/
structure PastS (C : Addr) (K : PySem.W.Frag) (G : Hp) (sg : List Nat) (ts : List Addr) (past : List (MV × MV)) : Prop where
  len : ts.length = past.length
  at_ : ∀ (i : Nat) (t : Addr) (pr : MV × MV), ts[i]? = some t → past[i]? = some pr → ∃ x y, G t = some (.tup [.ref x, .ref y]) ∧ MachV C K G x sg pr.1 ∧ MachV C K G y sg pr.2
theorem PastS.ext {C : Addr} {K : PySem.W.Frag} {G G' : Hp} {sg : List Nat} {ts : List Addr} {past : List (MV × MV)} (h : PastS C K G sg ts past) (e : LamX.ExtN G G') : PastS C K G' sg ts past :=
  ⟨h.len, fun i t pr h1 h2 => by
    obtain ⟨x, y, a, b, c⟩ := h.at_ i t pr h1 h2
    exact ⟨x, y, e _ _ a (fun ps z => by cases z), b.ext e, c.ext e⟩⟩
theorem PastS.snoc {C : Addr} {K : PySem.W.Frag} {G : Hp} {sg : List Nat} {ts : List Addr} {past : List (MV × MV)} (h : PastS C K G sg ts past) {t x y : Addr} {m1 m2 : MV} (ht : G t = some (.tup [.ref x, .ref y])) (h1 : MachV C K G x sg m1) (h2 : MachV C K G y sg m2) : PastS C K G sg (ts ++ [t]) (past ++ [(m1, m2)]) :=
  ⟨by rw [List.length_append, List.length_append, h.len]; rfl, fun i u pr e1 e2 => by
    rcases Nat.lt_or_ge i ts.length with hi | hi
    · rw [List.getElem?_append_left hi] at e1
      rw [List.getElem?_append_left (by rw [← h.len]; exact hi)] at e2
      exact h.at_ i u pr e1 e2
    · rw [List.getElem?_append_right hi] at e1
      rw [List.getElem?_append_right (by rw [← h.len]; exact hi), ← h.len] at e2
      generalize i - ts.length = j at e1 e2
      cases j with
      | zero => cases e1; cases e2; exact ⟨x, y, ht, h1, h2⟩
      | succ j => cases e1⟩
theorem PastS.cut {C : Addr} {K : PySem.W.Frag} {G : Hp} {sg : List Nat} {ts : List Addr} {past : List (MV × MV)} {t : Addr} {pr : MV × MV} (h : PastS C K G sg (ts ++ [t]) (past ++ [pr])) : PastS C K G sg ts past ∧ ∃ x y, G t = some (.tup [.ref x, .ref y]) ∧ MachV C K G x sg pr.1 ∧ MachV C K G y sg pr.2 := by
  have hl : ts.length = past.length := by
    have := h.len
    rw [List.length_append, List.length_append, List.length_singleton, List.length_singleton] at this
    omega
  refine ⟨⟨hl, fun i u q e1 e2 => ?_⟩, ?_⟩
  · have h1 := (List.getElem?_eq_some_iff.mp e1).1
    have h2 := (List.getElem?_eq_some_iff.mp e2).1
    exact h.at_ i u q (by rw [List.getElem?_append_left h1]; exact e1) (by rw [List.getElem?_append_left h2]; exact e2)
  · exact h.at_ ts.length t pr (by simp) (by rw [hl]; simp)
/-- a desk -/
structure DeskS (CM CD : Addr) (K : PySem.W.Frag) (l : List Addr) (H : Hp) (d : Addr) (sg : List Nat) (one other : MV) (past : List (MV × MV)) : Prop where
  ex : ∃ (dd a b p : Addr) (ts : List Addr), H d = some (.ins CD dd [("one", .ref a), ("other", .ref b), ("own_past", .ref p)]) ∧ MachV CM K (hide l H) a sg one ∧ MachV CM K (hide l H) b sg other ∧ hide l H p = some (.lst (ts.map V.ref)) ∧ PastS CM K (hide l H) sg ts past
theorem DeskS.keep {CM CD : Addr} {K : PySem.W.Frag} {l : List Addr} {H H' : Hp} {d : Addr} {sg : List Nat} {one other : MV} {past : List (MV × MV)} (h : DeskS CM CD K l H d sg one other past) (s : Kp l H H') (hd : H' d = H d) : DeskS CM CD K l H' d sg one other past := by
  obtain ⟨dd, a, b, p, ts, h1, h2, h3, h4, h5⟩ := h.ex
  have e := s.hide
  exact ⟨dd, a, b, p, ts, by rw [hd]; exact h1, h2.ext e, h3.ext e, e _ _ h4 (fun ps z => by cases z), h5.ext e⟩
theorem DeskS.same {CM CD : Addr} {K : PySem.W.Frag} {l : List Addr} {H H' : Hp} {d : Addr} {sg : List Nat} {one other : MV} {past : List (MV × MV)} (h : DeskS CM CD K l H d sg one other past) (s : Same H H') : DeskS CM CD K l H' d sg one other past := by
  obtain ⟨dd, a, b, p, ts, h1, _⟩ := id h.ex
  exact h.keep (.same s) (by rw [s _ _ h1, h1])
theorem DeskS.loose {CM CD : Addr} {K : PySem.W.Frag} {l : List Addr} {H : Hp} {d : Addr} {sg : List Nat} {one other : MV} {past : List (MV × MV)} (h : DeskS CM CD K l H d sg one other past) : Loose H d := by
  obtain ⟨dd, a, b, p, ts, h1, _⟩ := id h.ex
  exact .inr ⟨_, _, _, h1⟩
section
variable {P : Program} {w : World} {K : PySem.W.Frag} {mg : Str → Option Value} {base : Heap}
/-- the desk with other machines, behind one change -/
def NewD (T : All K mg) (l : List Addr) (H : Hp) (d : Addr) (sg : List Nat) (m1 m2 : MV) (past : List (MV × MV)) (Qh : Hp → Prop) : Prop := ∀ H', Same (hide [d] H) (hide [d] H') → DeskS T.C_Machine T.C_Desk K l H' d sg m1 m2 past → Qh H'
def spPut (T : All K mg) : Sp := fun vs H Q _ => ∃ (l : List Addr) (d a b : Addr) (sg : List Nat) (one other m1 m2 : MV) (past : List (MV × MV)), vs = [.ref d, .ref a, .ref b] ∧ d ∈ l ∧ LooseL l H ∧ DeskS T.C_Machine T.C_Desk K l H d sg one other past ∧ past.length ≤ 1000 ∧
  MachV T.C_Machine K (hide l H) a sg m1 ∧ MachV T.C_Machine K (hide l H) b sg m2 ∧ NewD T l H d sg m1 m2 (past ++ [(one, other)]) (Q .non)
theorem ok_Desk_put (T : All K mg) : FnOk P w K mg base CX0 1 T.f_Desk_put T.d_Desk_put ["self", "one", "other"] (spPut T) := by
  refine T.Desk_put.F.ok sc_Desk_put (fun vs H Q E h => ?_) (fun cdv A outer s H vs Q E hr h => ?_)
  · obtain ⟨l, d, a, b, sg, one, other, m1, m2, past, rfl, _⟩ := h
    rfl
  · obtain ⟨l, d, a, b, sg, one, other, m1, m2, past, rfl, hdl, hl, hD, hz, h1, h2, q⟩ := h
    obtain ⟨dd, a0, b0, p, ts, hd, ha0, hb0, hp, hpast⟩ := hD.ex
    refine ⟨_, pss_cons (ps_fld (pv 0) (pe_op op_cat (pe_fld (pv 0) rfl) (pe_lst (pa_cons (pe_tup (pa_cons (pe_fld (pv 0) rfl) (pa_cons (pe_fld (pv 0) rfl) pa_nil))) pa_nil))) rfl)
      (pss_cons (ps_fld (pv 0) (pv 1) rfl)
      (pss_one (ps_fld (pv 0) (pv 2) rfl))), ?_⟩
    have hp' := hide_le _ _ hp
    refine ⟨_, rfl, d, T.C_Desk, dd, _, _, rfl, hd, T.cl_Desk, T.n_Desk_own_past, rfl, ?_⟩
    refine ⟨_, rfl, d, T.C_Desk, dd, _, _, rfl, hd, T.cl_Desk, T.n_Desk_one, rfl, _, rfl, d, T.C_Desk, dd, _, _, rfl, hd, T.cl_Desk, T.n_Desk_other, rfl, ?_⟩
    refine ⟨by show 2 ≤ sizeLine; decide, fun t nt => ⟨by show 1 ≤ sizeLine; decide, fun q0 nq => ?_⟩⟩
    have st := same_upd (o := .tup [.ref a0, .ref b0]) nt
    have htq : t ≠ q0 := fun e => by rw [← e, upd_same] at nq; cases nq
    have st2 := same_up (o := .lst [.ref t]) st (st.free nq)
    have ht2 : (upd (upd H t (.tup [.ref a0, .ref b0])) q0 (.lst [.ref t])) t = some (.tup [.ref a0, .ref b0]) := by rw [upd_ne htq, upd_same]
    have hq2 := upd_same (H := upd H t (.tup [.ref a0, .ref b0])) (a := q0) (o := .lst [.ref t])
    generalize upd (upd H t (.tup [.ref a0, .ref b0])) q0 (.lst [.ref t]) = H2 at *
    have hlen : ts.length ≤ 1000 := by rw [hpast.len]; exact hz
    refine ⟨p, q0, _, _, rfl, rfl, st2 _ _ hp', hq2, by rw [List.length_map]; show ts.length + 1 ≤ sizeLine; exact sz (by omega), fun p2 np2 => ?_⟩
    have st3 := same_up (o := .lst (ts.map V.ref ++ [.ref t])) st2 (st2.free np2)
    have ntl : t ∉ l := hl.out nt
    have np2l : p2 ∉ l := hl.out (st2.free np2)
    have ht3 : (upd H2 p2 (.lst (ts.map V.ref ++ [.ref t]))) t = some (.tup [.ref a0, .ref b0]) := by rw [upd_ne (ne_of_none ht2 np2)]; exact ht2
    have hp3 := upd_same (H := H2) (a := p2) (o := .lst (ts.map V.ref ++ [.ref t]))
    generalize upd H2 p2 (.lst (ts.map V.ref ++ [.ref t])) = H3 at *
    have hd3 := st3 _ _ hd
    refine ⟨_, rfl, d, T.C_Desk, dd, _, rfl, hd3, T.cl_Desk, T.n_Desk_own_past, by show 3 < 1000; decide, ?_⟩
    refine ⟨_, rfl, _, rfl, d, T.C_Desk, dd, _, rfl, upd_same, T.cl_Desk, T.n_Desk_one, by show 3 < 1000; decide, ?_⟩
    refine ⟨_, rfl, _, rfl, d, T.C_Desk, dd, _, rfl, upd_same, T.cl_Desk, T.n_Desk_other, by show 3 < 1000; decide, ?_⟩
    refine q _ ?_ ⟨dd, a, b, p2, ts ++ [t], upd_same, ?_⟩
    · rw [hide_upd List.mem_cons_self, hide_upd List.mem_cons_self, hide_upd List.mem_cons_self]
      exact hide_mono st3
    · rw [hide_upd hdl, hide_upd hdl, hide_upd hdl]
      have e := LamX.ExtN.of (hide_mono (l := l) st3)
      refine ⟨h1.ext e, h2.ext e, by rw [hide_out np2l, hp3, List.map_append]; rfl, (hpast.ext e).snoc (by rw [hide_out ntl]; exact ht3) (ha0.ext e) (hb0.ext e)⟩
def wS (b : Bool) : Str := if b then "one" else "other"
def pick2 {α : Type} (b : Bool) (x y : α) : α := if b then x else y
def isWhich : PyData → Bool
  | .str x => decide (x = ("one" : Str)) || decide (x = ("other" : Str))
  | _ => false
def spNamed (T : All K mg) : Sp := fun vs H Q E => ∃ (l : List Addr) (d : Addr) (v : V) (wd : PyData) (sg : List Nat) (one other : MV) (past : List (MV × MV)), vs = [.ref d, v] ∧ DeskS T.C_Machine T.C_Desk K l H d sg one other past ∧ DpD K H v wd ∧
  (∀ b, wd = .str (wS b) → ∀ a, MachV T.C_Machine K (hide l H) a sg (pick2 b one other) → Q (.ref a) H) ∧ (isWhich wd = false → Rz T.C_InvalidCommand "value" v H E)
end
section
variable {w : World} {K : PySem.W.Frag} {mg : Str → Option Value} {base : Heap}
theorem ok_Desk_named (T : All K mg) : FnOk PW w K mg base (L2.CX PW w) 2 T.f_Desk_named T.d_Desk_named ["self", "which"] (spNamed T) := by
  refine T.Desk_named.F.okX sc_Desk_named (fun vs H Q E h => ?_) (fun cdv A outer s H vs Q E hr h => ?_)
  · obtain ⟨l, d, v, wd, sg, one, other, past, rfl, _⟩ := h
    rfl
  · obtain ⟨l, d, v, wd, sg, one, other, past, rfl, hD, hv, q1, qE⟩ := h
    obtain ⟨dd, a0, b0, p, ts, hd, ha0, hb0, hp, hpast⟩ := hD.ex
    refine ⟨_, pss_cons (ps_if (PW.pt (pw_or (pt_not (pt_val (pe_callB call_isi (by rfl) T.b_isinstance boot_isinstance (pa_cons (pv 1) (pa_cons (pe_bltn (v := .ty "str") (by rfl) T.b_str (by decide +kernel) rfl) pa_nil))))) (pw_or1 (pt_cmpR op_notIn_seq (pv 1) (pe_glob (v := .ref T.A_WHICH) rfl T.g_WHICH rfl) (by rfl))))) (pss_one (ps_raise1 rfl T.er_InvalidCommand.er (hr.mono (by decide)) (takes_of rfl rfl rfl rfl) T.g_InvalidCommand (pa_cons (pv 1) pa_nil))) pss_nil)
      (pss_one (ps_ret (pe_ifExp (pt_cmpR op_eq (pv 1) pe_str (nomark _)) (pe_fld (pv 0) rfl) (pe_fld (pv 0) rfl)))), ?_⟩
    try dsimp only [cxOf]
    by_cases hs : ∃ x, wd = .str x
    · obtain ⟨x, rfl⟩ := hs
      have ev := hv.str_inv
      subst ev
      refine ⟨_, rfl, _, .ty "str", .type "str", .type "str", true, rfl, .ty _, .base (.str _), kit_ty (by decide +kernel), true, rfl, ?_⟩
      refine iteF ?_
      refine ⟨_, rfl, T.A_WHICH, _, rfl, .inr (T.tu_WHICH H), rfl, by decide, _, rfl, ?_⟩
      by_cases h1 : x = ("one" : Str)
      · subst h1
        refine ite_f (by decide +kernel) ?_
        exact ⟨_, rfl, rfl, _, rfl, ite_t (by decide +kernel) ⟨_, rfl, d, T.C_Desk, dd, _, _, rfl, hd, T.cl_Desk, T.n_Desk_one, rfl, q1 true rfl _ ha0⟩⟩
      by_cases h2 : x = ("other" : Str)
      · subst h2
        refine ite_f (by decide +kernel) ?_
        exact ⟨_, rfl, rfl, _, rfl, ite_f (by decide +kernel) ⟨_, rfl, d, T.C_Desk, dd, _, _, rfl, hd, T.cl_Desk, T.n_Desk_other, rfl, q1 false rfl _ hb0⟩⟩
      · refine ite_t (by show (!((([V.str "one", V.str "other"] : List V)).any fun y => eqV y (V.str x))) = true; simp only [List.any_cons, List.any_nil, eqV]; simp [Ne.symm h1, Ne.symm h2]) ⟨_, rfl, _, rfl, fun e ne => qE ?_ _ e (same_upd ne) upd_same⟩
        show (decide (x = ("one" : Str)) || decide (x = ("other" : Str))) = false
        rw [decide_eq_false h1, decide_eq_false h2]
        rfl
    · have hs : ∀ x, wd ≠ .str x := fun x e => hs ⟨x, e⟩
      have e0 : isWhich wd = false := by cases wd <;> first | rfl | exact absurd rfl (hs _)
      refine ⟨_, rfl, v, .ty "str", .type (tyD wd), .type "str", false, rfl, .ty _, tyx_dpD hv, kit_ty (kb_str hs), ?_⟩
      exact ⟨false, rfl, iteT (iteT ⟨_, rfl, _, rfl, fun e ne => qE e0 _ e (same_upd ne) upd_same⟩)⟩
def spPutNamed (T : All K mg) : Sp := fun vs H Q _ => ∃ (l : List Addr) (d a : Addr) (b : Bool) (sg : List Nat) (one other m : MV) (past : List (MV × MV)), vs = [.ref d, .str (wS b), .ref a] ∧ d ∈ l ∧ LooseL l H ∧ DeskS T.C_Machine T.C_Desk K l H d sg one other past ∧ past.length ≤ 1000 ∧
  MachV T.C_Machine K (hide l H) a sg m ∧ NewD T l H d sg (pick2 b m one) (pick2 b other m) (past ++ [(one, other)]) (Q .non)
theorem ok_Desk_put_named (T : All K mg) : FnOk PW w K mg base CX0 2 T.f_Desk_put_named T.d_Desk_put_named ["self", "which", "machine"] (spPutNamed T) := by
  refine T.Desk_put_named.F.ok sc_Desk_put_named (fun vs H Q E h => ?_) (fun cdv A outer s H vs Q E hr h => ?_)
  · obtain ⟨l, d, a, b, sg, one, other, m, past, rfl, _⟩ := h
    rfl
  · obtain ⟨l, d, a, b, sg, one, other, m, past, rfl, hdl, hl, hD, hz, h1, q⟩ := h
    obtain ⟨dd, a0, b0, p, ts, hd, ha0, hb0, hp, hpast⟩ := id hD.ex
    refine ⟨_, pss_one (ps_if (pt_cmpR op_eq (pv 1) pe_str (nomark _)) (pss_one (ps_expr (pe_meth (pv 0) T.cl_Desk T.Desk_put.m (ok_Desk_put T) (hr.mono (by decide)) T.Desk_put.b .nil pass0 (pa_cons (pv 2) (pa_cons (pe_fld (pv 0) rfl) pa_nil))))) (pss_one (ps_expr (pe_meth (pv 0) T.cl_Desk T.Desk_put.m (ok_Desk_put T) (hr.mono (by decide)) T.Desk_put.b .nil pass0 (pa_cons (pe_fld (pv 0) rfl) (pa_cons (pv 2) pa_nil)))))), ?_⟩
    cases b with
    | true =>
      refine ⟨_, rfl, rfl, _, rfl, ite_t (by decide +kernel) ?_⟩
      refine ⟨_, rfl, d, dd, _, rfl, hd, rfl, _, rfl, _, rfl, d, T.C_Desk, dd, _, _, rfl, hd, T.cl_Desk, T.n_Desk_other, rfl, ?_⟩
      exact ⟨l, d, a, b0, sg, one, other, m, other, past, rfl, hdl, hl, hD, hz, h1, hb0, q⟩
    | false =>
      refine ⟨_, rfl, rfl, _, rfl, ite_f (by decide +kernel) ?_⟩
      refine ⟨_, rfl, d, dd, _, rfl, hd, rfl, _, rfl, d, T.C_Desk, dd, _, _, rfl, hd, T.cl_Desk, T.n_Desk_one, rfl, _, rfl, ?_⟩
      exact ⟨l, d, a0, a, sg, one, other, one, m, past, rfl, hdl, hl, hD, hz, ha0, h1, q⟩
def spSwap (T : All K mg) : Sp := fun vs H Q _ => ∃ (l : List Addr) (d : Addr) (sg : List Nat) (one other : MV) (past : List (MV × MV)), vs = [.ref d] ∧ d ∈ l ∧ LooseL l H ∧ DeskS T.C_Machine T.C_Desk K l H d sg one other past ∧ past.length ≤ 1000 ∧
  NewD T l H d sg other one (past ++ [(one, other)]) (Q .non)
theorem ok_Desk_swap (T : All K mg) : FnOk PW w K mg base CX0 2 T.f_Desk_swap T.d_Desk_swap ["self"] (spSwap T) := by
  refine T.Desk_swap.F.ok sc_Desk_swap (fun vs H Q E h => ?_) (fun cdv A outer s H vs Q E hr h => ?_)
  · obtain ⟨l, d, sg, one, other, past, rfl, _⟩ := h
    rfl
  · obtain ⟨l, d, sg, one, other, past, rfl, hdl, hl, hD, hz, q⟩ := h
    obtain ⟨dd, a0, b0, p, ts, hd, ha0, hb0, hp, hpast⟩ := id hD.ex
    refine ⟨_, pss_one (ps_expr (pe_meth (pv 0) T.cl_Desk T.Desk_put.m (ok_Desk_put T) (hr.mono (by decide)) T.Desk_put.b .nil pass0 (pa_cons (pe_fld (pv 0) rfl) (pa_cons (pe_fld (pv 0) rfl) pa_nil)))), ?_⟩
    refine ⟨_, rfl, d, dd, _, rfl, hd, rfl, _, rfl, d, T.C_Desk, dd, _, _, rfl, hd, T.cl_Desk, T.n_Desk_other, rfl, _, rfl, d, T.C_Desk, dd, _, _, rfl, hd, T.cl_Desk, T.n_Desk_one, rfl, ?_⟩
    exact ⟨l, d, b0, a0, sg, one, other, other, one, past, rfl, hdl, hl, hD, hz, hb0, ha0, q⟩
def spDeskLen (T : All K mg) : Sp := fun vs H Q _ => ∃ (l : List Addr) (d : Addr) (sg : List Nat) (one other : MV) (past : List (MV × MV)), vs = [.ref d] ∧ DeskS T.C_Machine T.C_Desk K l H d sg one other past ∧ Q (.int (past.length : Int)) H
theorem ok_Desk_len (T : All K mg) : FnOk PW w K mg base CX0 1 T.f_Desk_len T.d_Desk_len ["self"] (spDeskLen T) := by
  refine T.Desk_len.F.ok sc_Desk_len (fun vs H Q E h => ?_) (fun cdv A outer s H vs Q E hr h => ?_)
  · obtain ⟨l, d, sg, one, other, past, rfl, _⟩ := h
    rfl
  · obtain ⟨l, d, sg, one, other, past, rfl, hD, q⟩ := h
    obtain ⟨dd, a0, b0, p, ts, hd, ha0, hb0, hp, hpast⟩ := id hD.ex
    refine ⟨_, pss_one (ps_ret (pe_callB call_len_seq (by rfl) T.b_len PySem.boot_len (pa_cons (pe_fld (pv 0) rfl) pa_nil))), ?_⟩
    have hp' := hide_le _ _ hp
    refine ⟨_, rfl, d, T.C_Desk, dd, _, _, rfl, hd, T.cl_Desk, T.n_Desk_own_past, rfl, p, _, rfl, .inl (.inl (.inl hp')), ?_⟩
    rw [List.length_map, hpast.len]
    exact q
def spUndo (T : All K mg) : Sp := fun vs H Q E => ∃ (l : List Addr) (d : Addr) (sg : List Nat) (one other : MV) (past : List (MV × MV)), vs = [.ref d] ∧ d ∈ l ∧ LooseL l H ∧ DeskS T.C_Machine T.C_Desk K l H d sg one other past ∧ past.length ≤ 1000 ∧
  ((past = [] ∧ ∀ H', Same H H' → E (.ref T.C_NothingToUndo) none H') ∨ ∃ pr q, past = q ++ [pr] ∧ NewD T l H d sg pr.1 pr.2 q (Q .non))
theorem ok_Desk_undo (T : All K mg) : FnOk PW w K mg base (L2.CX PW w) 2 T.f_Desk_undo T.d_Desk_undo ["self"] (spUndo T) := by
  refine T.Desk_undo.F.okX sc_Desk_undo (fun vs H Q E h => ?_) (fun cdv A outer s H vs Q E hr h => ?_)
  · obtain ⟨l, d, sg, one, other, past, rfl, _⟩ := h
    rfl
  · obtain ⟨l, d, sg, one, other, past, rfl, hdl, hl, hD, hz, h⟩ := h
    obtain ⟨dd, a0, b0, p, ts, hd, ha0, hb0, hp, hpast⟩ := id hD.ex
    refine ⟨_, pss_cons (ps_if (pt_cmpR (op_eqNilK (K := K) rfl (u64 hr)) (pe_fld (pv 0) rfl) (pe_lst pa_nil) (nomark _)) (pss_one (ps_raise0 rfl T.er_NothingToUndo (hr.mono (by decide)) (takes_of rfl rfl rfl rfl) T.g_NothingToUndo)) pss_nil)
      (pss_cons (ps_asg (pe_ix ix_list (pe_fld (pv 0) rfl) (pe_un un_neg pe_int) (fun _ _ => rfl)) (pg_tup rfl (pgs_cons (pg_fld (pv 0)) (pgs_cons (pg_fld (pv 0)) pgs_nil))))
      (pss_one (ps_fld (pv 0) (pe_slice sl_list (pe_fld (pv 0) rfl) po_none (po_some (pe_un un_neg pe_int))) rfl))), ?_⟩
    try dsimp only [cxOf]
    have hp' := hide_le _ _ hp
    refine ⟨_, rfl, d, T.C_Desk, dd, _, _, rfl, hd, T.cl_Desk, T.n_Desk_own_past, rfl, by show 0 ≤ sizeLine; decide, fun q0 nq => ?_⟩
    have s0 := same_upd (o := .lst []) nq
    refine ⟨p, q0, _, rfl, rfl, .inl (.inl (s0 _ _ hp')), upd_same, fun H1 s1 => ⟨_, rfl, ?_⟩⟩
    have s01 := s0.trans s1
    rcases h with ⟨rfl, hE⟩ | ⟨pr, pa, rfl, q⟩
    · have e0 : ts = [] := List.length_eq_zero_iff.mp hpast.len
      subst e0
      exact ite_t (decide_eq_true rfl) (hE _ s01)
    · obtain ⟨ts0, t, rfl⟩ : ∃ ts0 t, ts = ts0 ++ [t] := by
        have hne : ts ≠ [] := fun z => by have := hpast.len; rw [z] at this; simp at this
        exact ⟨ts.dropLast, ts.getLast hne, (List.dropLast_concat_getLast hne).symm⟩
      obtain ⟨hcut, x, y, ht, hx, hy⟩ := hpast.cut
      refine ite_f (decide_eq_false (fun z => by rw [List.map_append] at z; exact absurd (List.append_eq_nil_iff.mp z).2 (fun y => by cases y))) ?_
      have e01 := LamX.ExtN.of (hide_mono (l := l) s01)
      have hd1 := s01 _ _ hd
      have hp1 := s01 _ _ hp'
      rw [List.map_append] at hp1
      have ht1 := hide_le _ _ (e01 _ _ ht (fun _ z => by cases z))
      refine ⟨_, rfl, d, T.C_Desk, dd, _, _, rfl, hd1, T.cl_Desk, T.n_Desk_own_past, rfl, 1, rfl, p, _, _, _, rfl, rfl, .inl (.inl hp1), atLast _ _, ?_⟩
      refine ⟨t, _, rfl, .inl (.inl ht1), rfl, _, _, rfl, _, rfl, d, T.C_Desk, dd, _, rfl, hd1, T.cl_Desk, T.n_Desk_one, by show 3 < 1000; decide, _, _, rfl, _, rfl, d, T.C_Desk, dd, _, rfl, upd_same, T.cl_Desk, T.n_Desk_other, by show 3 < 1000; decide, rfl, ?_⟩
      have hdp : d ≠ p := fun e => by rw [e, hp'] at hd; cases hd
      refine ⟨_, rfl, d, T.C_Desk, dd, _, _, rfl, upd_same, T.cl_Desk, T.n_Desk_own_past, rfl, ?_⟩
      refine ⟨1, rfl, _, rfl, p, _, rfl, .inl (.inl (by rw [upd_ne hdp.symm, upd_ne hdp.symm]; exact hp1)), fun p2 np2 => ?_⟩
      rw [show (List.map V.ref ts0 ++ List.map V.ref [t]) = List.map V.ref ts0 ++ [V.ref t] from rfl, cutLast]
      have hd2 : d ≠ p2 := fun e => by rw [← e, upd_same] at np2; cases np2
      have np1 : H1 p2 = none := by rw [upd_ne hd2.symm, upd_ne hd2.symm] at np2; exact np2
      have np2l : p2 ∉ l := hl.out (s01.free np1)
      refine ⟨_, rfl, d, T.C_Desk, dd, _, rfl, by rw [upd_ne hd2, upd_same], T.cl_Desk, T.n_Desk_own_past, by show 3 < 1000; decide, ?_⟩
      refine q _ ?_ ⟨dd, x, y, p2, ts0, upd_same, ?_⟩
      · rw [hide_upd List.mem_cons_self]
        refine (hide_mono s01).trans ?_
        intro b o e
        obtain ⟨nb, e⟩ := hide_some e
        have nbd : b ≠ d := fun z => nb (by rw [z]; exact List.mem_cons_self)
        rw [hide_out nb, upd_ne (ne_of_none e np1), upd_ne nbd, upd_ne nbd]
        exact e
      · rw [hide_upd hdl]
        have e2 : LamX.ExtN (hide l H1) (hide l (upd (upd (upd H1 d (.ins T.C_Desk dd (putF "one" (.ref x) [("one", .ref a0), ("other", .ref b0), ("own_past", .ref p)]))) d (.ins T.C_Desk dd (putF "other" (.ref y) (putF "one" (.ref x) [("one", .ref a0), ("other", .ref b0), ("own_past", .ref p)])))) p2 (.lst (List.map V.ref ts0)))) := fun b o e _ => by
          obtain ⟨nb, e⟩ := hide_some e
          have nbd : b ≠ d := fun z => nb (by rw [z]; exact hdl)
          rw [hide_out nb, upd_ne (ne_of_none e np1), upd_ne nbd, upd_ne nbd]
          exact e
        have e := e01.trans e2
        exact ⟨hx.ext e, hy.ext e, by rw [hide_out np2l, upd_same], hcut.ext e⟩
end
end Lw
namespace Lw
open PySem PySem.Spec PyProof.Rows L3
open L2 hiding del del_same del_ne
section
variable {w : World} {K : PySem.W.Frag} {mg : Str → Option Value} {base : Heap}
theorem NewD.same {T : All K mg} {l : List Addr} {H H1 : Hp} {d : Addr} {sg : List Nat} {m1 m2 : MV} {past : List (MV × MV)} {Qh : Hp → Prop} (h : NewD T l H d sg m1 m2 past Qh) (s : Same H H1) : NewD T l H1 d sg m1 m2 past Qh := fun H' e hD => h H' ((hide_mono s).trans e) hD
/-- a new machine, apart from what is loose -/
theorem mach_new {C : Addr} {l : List Addr} {H H1 : Hp} {x : Addr} {sg : List Nat} {R : List (List Nat)} {k : List Bool} (hl : LooseL l H) (s : Same H H1) (nx : H x = none) (hM : Mach C K H1 x sg R k) : Mach C K (hide l H1) x sg R k := hM.hid (hl.same s) (hl.out nx)
theorem isWhich_w (b : Bool) : isWhich (.str (wS b)) = true := by cases b <;> decide +kernel
theorem wS_inj {a b : Bool} (h : PyData.str (wS a) = .str (wS b)) : a = b := by
  have e : wS a = wS b := PyData.str.inj h
  cases a <;> cases b <;> first | rfl | exact absurd e (by decide +kernel)
abbrev NewB (T : All K mg) (l : List Addr) (H : Hp) (d : Addr) (sg : List Nat) (b : Bool) (m : MV) (one other : MV) (past : List (MV × MV)) (Qh : Hp → Prop) : Prop := NewD T l H d sg (pick2 b m one) (pick2 b other m) (past ++ [(one, other)]) Qh
def spTurn (T : All K mg) : Sp := fun vs H Q E => ∃ (l : List Addr) (d : Addr) (v u : V) (wd pd : PyData) (sg : List Nat) (one other : MV) (past : List (MV × MV)), vs = [.ref d, v, u] ∧ d ∈ l ∧ LooseL l H ∧ DeskS T.C_Machine T.C_Desk K l H d sg one other past ∧ past.length ≤ 1000 ∧ DpD K H v wd ∧ DpD K H u pd ∧
  ((isWhich wd = false ∧ Rz T.C_InvalidCommand "value" v H E) ∨ ∃ b : Bool, wd = .str (wS b) ∧
    ((isPlaceD (pick2 b one other).1.length pd = false ∧ Rz T.C_InvalidPlace "value" u H E) ∨
     ∃ p : Nat, pd = .int (p : Int) ∧ p < (pick2 b one other).1.length ∧ NewB T l H d sg b ((pick2 b one other).1, M74.tk (pick2 b one other).2 [p]) one other past (Q .non)))
theorem ok_Desk_turn (T : All K mg) : FnOk PW w K mg base (L2.CX PW w) 8 T.f_Desk_turn T.d_Desk_turn ["self", "which", "place"] (spTurn T) := by
  refine T.Desk_turn.F.okX sc_Desk_turn (fun vs H Q E h => ?_) (fun cdv A outer s H vs Q E hr h => ?_)
  · obtain ⟨l, d, v, u, wd, pd, sg, one, other, past, rfl, _⟩ := h
    rfl
  · obtain ⟨l, d, v, u, wd, pd, sg, one, other, past, rfl, hdl, hl, hD, hz, hv, hpv, h⟩ := h
    obtain ⟨dd, a0, b0, p0, ts, hd, _⟩ := id hD.ex
    refine ⟨_, pss_cons (ps_set (i := 3) sc_Desk_turn.nd rfl (by first | exact Or.inl rfl | exact Or.inr rfl) (pe_meth (pv 0) T.cl_Desk T.Desk_named.m (ok_Desk_named T) (hr.mono (by decide)) T.Desk_named.b .nil (passes_call (takes_of rfl rfl rfl rfl) (fun _ _ _ _ h => h)) (pa_cons (pv 1) pa_nil)))
      (pss_cons (ps_expr (pe_call (ok_want_placeA T) (hr.mono (by decide)) (by rfl) T.want_place.g T.want_place.F.kp T.want_place.b .nil (passes_call (takes_of rfl rfl rfl rfl) (fun _ _ _ _ h => h)) (pa_cons (pv 3) (pa_cons (pv 2) pa_nil))))
      (pss_one (ps_expr (pe_meth (pv 0) T.cl_Desk T.Desk_put_named.m (ok_Desk_put_named T) (hr.mono (by decide)) T.Desk_put_named.b .nil pass0 (pa_cons (pv 1) (pa_cons (pe_call (ok_turned T) (hr.mono (by decide)) (by rfl) T.turned.g T.turned.F.kp T.turned.b .nil pass0 (pa_cons (pv 3) (pa_cons (pe_lst (pa_cons (pv 2) pa_nil)) pa_nil))) pa_nil)))))), ?_⟩
    try dsimp only [cxOf]
    rcases h with ⟨hw, hE⟩ | ⟨b, rfl, h⟩
    · refine ⟨_, rfl, d, dd, _, rfl, hd, rfl, _, rfl, l, d, v, wd, sg, one, other, past, rfl, hD, hv, fun b z => ?_, fun _ => hE⟩
      rw [z, isWhich_w] at hw; cases hw
    have ev := hv.str_inv
    subst ev
    refine ⟨_, rfl, d, dd, _, rfl, hd, rfl, _, rfl, l, d, _, _, sg, one, other, past, rfl, hD, hv, fun b2 z a hM => ?_, fun z => absurd z (by rw [isWhich_w]; decide)⟩
    have eb : b2 = b := wS_inj z.symm
    subst eb
    have hM' := hM.same hide_le
    refine ⟨_, rfl, _, rfl, a, u, pd, sg, _, _, rfl, hM', hpv, fun hp => ?_, fun hp => ?_⟩
    · rcases h with ⟨z, _⟩ | ⟨p, rfl, hlt, q⟩
      · rw [hp] at z; cases z
      cases hpv.int_inv
      refine ⟨_, rfl, d, dd, _, rfl, hd, rfl, _, rfl, ?_⟩
      refine ⟨_, rfl, _, rfl, by show 1 ≤ sizeLine; decide, fun q0 nq => ?_⟩
      have s0 := same_upd (o := .lst [.int (p : Int)]) nq
      refine ⟨a, .ref q0, [p], sg, _, _, rfl, hM'.same s0, sq_list (.inl (.inl upd_same)), by simp, fun x hx => by rw [List.mem_singleton.mp hx]; exact hlt, fun H1 x s1 nx hM1 => ?_⟩
      have s01 := s0.trans s1
      exact ⟨l, d, x, b2, sg, one, other, (_, _), past, rfl, hdl, hl.same s01, hD.same s01, hz, mach_new hl s01 (s0.free nx) hM1, NewD.same q s01⟩
    · rcases h with ⟨_, hE⟩ | ⟨p, rfl, hlt, q⟩
      · exact hE
      · rw [isPlace_nat hlt] at hp; cases hp
def spLead (T : All K mg) : Sp := fun vs H Q E => ∃ (l : List Addr) (d : Addr) (v v1 v2 v3 : V) (wd d1 d2 d3 : PyData) (sg : List Nat) (one other : MV) (past : List (MV × MV)), vs = [.ref d, v, v1, v2, v3] ∧ d ∈ l ∧ LooseL l H ∧ DeskS T.C_Machine T.C_Desk K l H d sg one other past ∧ past.length ≤ 1000 ∧ DpD K H v wd ∧ DpD K H v1 d1 ∧ DpD K H v2 d2 ∧ DpD K H v3 d3 ∧ shortD d2 ∧
  ((isWhich wd = false ∧ Rz T.C_InvalidCommand "value" v H E) ∨ ∃ b : Bool, wd = .str (wS b) ∧
    ((isPlaceD (pick2 b one other).1.length d1 = false ∧ Rz T.C_InvalidPlace "value" v1 H E) ∨
     (isPlaceD (pick2 b one other).1.length d1 = true ∧ isLetterD sg d2 = false ∧ Rz T.C_InvalidLetter "value" v2 H E) ∨
     (isPlaceD (pick2 b one other).1.length d1 = true ∧ isLetterD sg d2 = true ∧ isPlaceD (pick2 b one other).1.length d3 = false ∧ Rz T.C_InvalidPlace "value" v3 H E) ∨
     (∃ p c g : Nat, d1 = .int (p : Int) ∧ d2 = .str (tS [c]) ∧ d3 = .int (g : Int) ∧ p < (pick2 b one other).1.length ∧ c ∈ sg ∧ g < (pick2 b one other).1.length ∧
       (M14.Good sg.length (M74.rd (pick2 b one other).1 p (sg.idxOf c) g) (pick2 b one other).2 → NewB T l H d sg b (M74.rd (pick2 b one other).1 p (sg.idxOf c) g, (pick2 b one other).2) one other past (Q .non)) ∧
       (∀ p', p' < (pick2 b one other).1.length → p' ∉ M14.met (M74.rd (pick2 b one other).1 p (sg.idxOf c) g) 0 → (∀ j, j < p' → j ∈ M14.met (M74.rd (pick2 b one other).1 p (sg.idxOf c) g) 0) → Rz T.C_NotComeTo "place" (.int (p' : Int)) H E))))
theorem ok_Desk_lead (T : All K mg) : FnOk PW w K mg base (L2.CX PW w) 7 T.f_Desk_lead T.d_Desk_lead ["self", "which", "place", "letter", "goal"] (spLead T) := by
  refine T.Desk_lead.F.okX sc_Desk_lead (fun vs H Q E h => ?_) (fun cdv A outer s H vs Q E hr h => ?_)
  · obtain ⟨l, d, v, v1, v2, v3, wd, d1, d2, d3, sg, one, other, past, rfl, _⟩ := h
    rfl
  · obtain ⟨l, d, v, v1, v2, v3, wd, d1, d2, d3, sg, one, other, past, rfl, hdl, hl, hD, hz, hv, h1, h2, h3, hsh, h⟩ := h
    obtain ⟨dd, a0, b0, p0, ts, hd, _⟩ := id hD.ex
    refine ⟨_, pss_one (ps_expr (pe_meth (pv 0) T.cl_Desk T.Desk_put_named.m (ok_Desk_put_named T) (hr.mono (by decide)) T.Desk_put_named.b .nil pass0 (pa_cons (pv 1) (pa_cons (pe_call (ok_redirectedA T) (hr.mono (by decide)) (by rfl) T.redirected.g T.redirected.F.kp T.redirected.b .nil (passes_call (takes_of rfl rfl rfl rfl) (fun _ _ _ _ h => h)) (pa_cons (pe_meth (pv 0) T.cl_Desk T.Desk_named.m (ok_Desk_named T) (hr.mono (by decide)) T.Desk_named.b .nil (passes_call (takes_of rfl rfl rfl rfl) (fun _ _ _ _ h => h)) (pa_cons (pv 1) pa_nil)) (pa_cons (pv 2) (pa_cons (pv 3) (pa_cons (pv 4) pa_nil))))) pa_nil)))), ?_⟩
    try dsimp only [cxOf]
    rcases h with ⟨hw, hE⟩ | ⟨b, rfl, h⟩
    · refine ⟨_, rfl, d, dd, _, rfl, hd, rfl, _, rfl, _, rfl, d, dd, _, rfl, hd, rfl, _, rfl, l, d, v, wd, sg, one, other, past, rfl, hD, hv, fun b z => ?_, fun _ => hE⟩
      rw [z, isWhich_w] at hw; cases hw
    have ev := hv.str_inv
    subst ev
    refine ⟨_, rfl, d, dd, _, rfl, hd, rfl, _, rfl, _, rfl, d, dd, _, rfl, hd, rfl, _, rfl, l, d, _, _, sg, one, other, past, rfl, hD, hv, fun b2 z a hM => ?_, fun z => absurd z (by rw [isWhich_w]; decide)⟩
    have eb : b2 = b := wS_inj z.symm
    subst eb
    have hM' := hM.same hide_le
    refine ⟨_, rfl, _, rfl, _, rfl, a, v1, v2, v3, d1, d2, d3, sg, _, _, rfl, hM', h1, h2, h3, hsh, ?_⟩
    rcases h with h | h | h | ⟨p, c, g, e1, e2, e3, hp, hc, hg, q, qE⟩
    · exact .inl h
    · exact .inr (.inl h)
    · exact .inr (.inr (.inl h))
    · refine .inr (.inr (.inr ⟨p, c, g, e1, e2, e3, hp, hc, hg, fun hG H1 x s1 nx hM1 => ?_, qE⟩))
      exact ⟨l, d, x, b2, sg, one, other, (_, _), past, rfl, hdl, hl.same s1, hD.same s1, hz, mach_new hl s1 nx hM1, NewD.same (q hG) s1⟩
/-- as BadM; | and - ask the table for the value's type too -/
def BadO (T : All K mg) (H : Hp) (E : XK) (sg : List Nat) (v : V) : Prop :=
  (∃ t, TyX K H v (.type t) ∧ plainTy t = true ∧ plainOp .BitOr t = true ∧ plainOp .Sub t = true ∧ Rz T.C_InvalidMachine "value" v H E) ∨
  (∃ (b : Addr) (sg2 : List Nat) (S : List (List Nat)) (l : List Bool), v = .ref b ∧ Mach T.C_Machine K H b sg2 S l ∧ sg ≠ sg2 ∧ Oz T.C_OtherLetters sg sg2 H E)
theorem BadO.bad {T : All K mg} {H : Hp} {E : XK} {sg : List Nat} {v : V} (h : BadO T H E sg v) : BadM T H E sg v := by
  rcases h with ⟨t, a, b, _, _, c⟩ | h
  · exact .inl ⟨t, a, b, c⟩
  · exact .inr h
theorem BadO.oth {T : All K mg} {H : Hp} {E : XK} {sg : List Nat} {v : V} (h : BadO T H E sg v) (op : Operator) (ho : op = .BitOr ∨ op = .Sub) : OthO op K T.C_Machine H v := by
  rcases h with ⟨t, a, b, c1, c2, _⟩ | ⟨b, sg2, S, l, rfl, hN, _⟩
  · exact .inr ⟨t, a, by rcases ho with rfl | rfl; exact c1; exact c2, sub_plain b⟩
  · obtain ⟨dy, r', qq', hbt, _⟩ := hN.at_
    exact .inl ⟨b, dy, _, rfl, hbt⟩
def spJoin (T : All K mg) (f : Bool → Bool → Bool) : Sp := fun vs H Q E => ∃ (l : List Addr) (d : Addr) (v : V) (sg : List Nat) (one other : MV) (past : List (MV × MV)), vs = [.ref d, v] ∧ d ∈ l ∧ LooseL l H ∧ DeskS T.C_Machine T.C_Desk K l H d sg one other past ∧ past.length ≤ 1000 ∧
  ((∃ (b : Addr) (m : MV), v = .ref b ∧ MachV T.C_Machine K H b sg m ∧ one.1.length * m.1.length ≤ 40 ∧ NewD T l H d sg (M16.pairR one.1 m.1, M16.pairK f one.1 m.1 one.2 m.2) other (past ++ [(one, other)]) (Q (.ref d))) ∨ BadO T H E sg v)
theorem ok_Desk_iadd (T : All K mg) : FnOk PW w K mg base (L2.CX PW w) 9 T.f_Desk_iadd T.d_Desk_iadd ["self", "machine"] (spJoin T or) := by
  refine T.Desk_iadd.F.okX sc_Desk_iadd (fun vs H Q E h => ?_) (fun cdv A outer s H vs Q E hr h => ?_)
  · obtain ⟨l, d, v, sg, one, other, past, rfl, _⟩ := h
    rfl
  · obtain ⟨l, d, v, sg, one, other, past, rfl, hdl, hl, hD, hz, h⟩ := h
    obtain ⟨dd, a0, b0, p0, ts, hd, ha0, hb0, _⟩ := id hD.ex
    have hM := ha0.same hide_le
    obtain ⟨dx, r, qq, hat, _⟩ := id hM.at_
    refine ⟨_, pss_cons (ps_expr (pe_meth (pv 0) T.cl_Desk T.Desk_put.m (ok_Desk_put T) (hr.mono (by decide)) T.Desk_put.b .nil pass0 (pa_cons (pe_op (op_ownA (op := .BitOr) (ok_Machine_orA T) (hr.mono (by decide)) T.Machine_or.b T.Machine_or.m T.sfM (noneIn_eq (Bool.and_eq_true_iff.mp T.nrM).1) (passes_call (takes_of rfl rfl rfl rfl) (fun _ _ _ _ h => h))) (pe_fld (pv 0) rfl) (pv 1)) (pa_cons (pe_fld (pv 0) rfl) pa_nil))))
      (pss_one (ps_ret (pv 0))), ?_⟩
    try dsimp only [cxOf]
    rcases h with ⟨b, m, rfl, hN, hmul, q⟩ | h
    · obtain ⟨dy, r', qq', hbt, _⟩ := id hN.at_
      refine ⟨_, rfl, d, dd, _, rfl, hd, rfl, _, rfl, d, T.C_Desk, dd, _, _, rfl, hd, T.cl_Desk, T.n_Desk_one, rfl, _, rfl, a0, dx, _, rfl, hat, .inl ⟨b, dy, _, rfl, hbt⟩, a0, _, sg, _, _, rfl, hM, .inl ⟨b, m.1, m.2, rfl, hN, hmul, fun H1 x s1 nx hM1 => ⟨x, rfl, ?_⟩⟩⟩
      refine ⟨_, rfl, d, T.C_Desk, dd, _, _, rfl, s1 _ _ hd, T.cl_Desk, T.n_Desk_other, rfl, ?_⟩
      exact ⟨l, d, x, b0, sg, one, other, (_, _), other, past, rfl, hdl, hl.same s1, hD.same s1, hz, mach_new hl s1 nx hM1, hb0.ext (LamX.ExtN.of (hide_mono s1)), NewD.same (fun H' e hD' => ⟨_, rfl, q H' e hD'⟩) s1⟩
    · exact ⟨_, rfl, d, dd, _, rfl, hd, rfl, _, rfl, d, T.C_Desk, dd, _, _, rfl, hd, T.cl_Desk, T.n_Desk_one, rfl, _, rfl, a0, dx, _, rfl, hat, h.oth _ (.inl rfl), a0, _, sg, _, _, rfl, hM, .inr h.bad⟩
theorem ok_Desk_isub (T : All K mg) : FnOk PW w K mg base (L2.CX PW w) 9 T.f_Desk_isub T.d_Desk_isub ["self", "machine"] (spJoin T fun a b => a && !b) := by
  refine T.Desk_isub.F.okX sc_Desk_isub (fun vs H Q E h => ?_) (fun cdv A outer s H vs Q E hr h => ?_)
  · obtain ⟨l, d, v, sg, one, other, past, rfl, _⟩ := h
    rfl
  · obtain ⟨l, d, v, sg, one, other, past, rfl, hdl, hl, hD, hz, h⟩ := h
    obtain ⟨dd, a0, b0, p0, ts, hd, ha0, hb0, _⟩ := id hD.ex
    have hM := ha0.same hide_le
    obtain ⟨dx, r, qq, hat, _⟩ := id hM.at_
    refine ⟨_, pss_cons (ps_expr (pe_meth (pv 0) T.cl_Desk T.Desk_put.m (ok_Desk_put T) (hr.mono (by decide)) T.Desk_put.b .nil pass0 (pa_cons (pe_op (op_ownA (op := .Sub) (ok_Machine_subA T) (hr.mono (by decide)) T.Machine_sub.b T.Machine_sub.m T.sfM (noneIn_eq (Bool.and_eq_true_iff.mp T.nrM).2) (passes_call (takes_of rfl rfl rfl rfl) (fun _ _ _ _ h => h))) (pe_fld (pv 0) rfl) (pv 1)) (pa_cons (pe_fld (pv 0) rfl) pa_nil))))
      (pss_one (ps_ret (pv 0))), ?_⟩
    try dsimp only [cxOf]
    rcases h with ⟨b, m, rfl, hN, hmul, q⟩ | h
    · obtain ⟨dy, r', qq', hbt, _⟩ := id hN.at_
      refine ⟨_, rfl, d, dd, _, rfl, hd, rfl, _, rfl, d, T.C_Desk, dd, _, _, rfl, hd, T.cl_Desk, T.n_Desk_one, rfl, _, rfl, a0, dx, _, rfl, hat, .inl ⟨b, dy, _, rfl, hbt⟩, a0, _, sg, _, _, rfl, hM, .inl ⟨b, m.1, m.2, rfl, hN, hmul, fun H1 x s1 nx hM1 => ⟨x, rfl, ?_⟩⟩⟩
      refine ⟨_, rfl, d, T.C_Desk, dd, _, _, rfl, s1 _ _ hd, T.cl_Desk, T.n_Desk_other, rfl, ?_⟩
      exact ⟨l, d, x, b0, sg, one, other, (_, _), other, past, rfl, hdl, hl.same s1, hD.same s1, hz, mach_new hl s1 nx hM1, hb0.ext (LamX.ExtN.of (hide_mono s1)), NewD.same (fun H' e hD' => ⟨_, rfl, q H' e hD'⟩) s1⟩
    · exact ⟨_, rfl, d, dd, _, rfl, hd, rfl, _, rfl, d, T.C_Desk, dd, _, _, rfl, hd, T.cl_Desk, T.n_Desk_one, rfl, _, rfl, a0, dx, _, rfl, hat, h.oth _ (.inr rfl), a0, _, sg, _, _, rfl, hM, .inr h.bad⟩
end
end Lw
namespace Lw
open PySem PySem.Spec PyProof.Rows L3
open L2 hiding del del_same del_ne
/-- whether a text is taken -/
def tkn (sg : List Nat) (m : MV) (t : List Nat) : Bool := M14.kAt m.2 (M14.led sg m.1 0 t)
def mark (a b : Bool) : Str := if a then (if b then "both" else "one") else (if b then "other" else "none")
section
variable {w : World} {K : PySem.W.Frag} {mg : Str → Option Value} {base : Heap}
def spGet (T : All K mg) : Sp := fun vs H Q E => ∃ (l : List Addr) (d : Addr) (v : V) (vd : PyData) (sg : List Nat) (one other : MV) (past : List (MV × MV)), vs = [.ref d, v] ∧ DeskS T.C_Machine T.C_Desk K l H d sg one other past ∧ DpD K H v vd ∧ shortD vd ∧
  ((∃ t, vd = .str (tS t) ∧ (∀ c ∈ t, c ∈ sg) ∧ ∀ H', Same H H' → Q (.str (mark (tkn sg one t) (tkn sg other t))) H') ∨ (overD sg vd = false ∧ Rz T.C_InvalidText "value" v H E))
theorem ok_Desk_getitem (T : All K mg) : FnOk PW w K mg base (L2.CX PW w) 3 T.f_Desk_getitem T.d_Desk_getitem ["self", "text"] (spGet T) := by
  refine T.Desk_getitem.F.okX sc_Desk_getitem (fun vs H Q E h => ?_) (fun cdv A outer s H vs Q E hr h => ?_)
  · obtain ⟨l, d, v, vd, sg, one, other, past, rfl, _⟩ := h
    rfl
  · obtain ⟨l, d, v, vd, sg, one, other, past, rfl, hD, hv, hz, h⟩ := h
    obtain ⟨dd, a0, b0, p0, ts, hd, ha0, hb0, _⟩ := id hD.ex
    have hM := ha0.same hide_le
    have hN := hb0.same hide_le
    obtain ⟨dx, r, qq, hat, _⟩ := id hM.at_
    refine ⟨_, pss_cons (ps_expr (pe_call (ok_want_textA T) (hr.mono (by decide)) (by rfl) T.want_text.g T.want_text.F.kp T.want_text.b .nil (passes_call (takes_of rfl rfl rfl rfl) (fun _ _ _ _ h => h)) (pa_cons (pe_fld (pe_fld (pv 0) rfl) rfl) (pa_cons (pv 1) pa_nil))))
      (pss_cons (ps_if (pt_val (pe_call (ok_is_taken T) (hr.mono (by decide)) (by rfl) T.is_taken.g T.is_taken.F.kp T.is_taken.b .nil pass0 (pa_cons (pe_fld (pv 0) rfl) (pa_cons (pv 1) pa_nil)))) (pss_one (ps_ret (pe_ifExp (pt_val (pe_call (ok_is_taken T) (hr.mono (by decide)) (by rfl) T.is_taken.g T.is_taken.F.kp T.is_taken.b .nil pass0 (pa_cons (pe_fld (pv 0) rfl) (pa_cons (pv 1) pa_nil)))) pe_str pe_str))) pss_nil)
      (pss_one (ps_ret (pe_ifExp (pt_val (pe_call (ok_is_taken T) (hr.mono (by decide)) (by rfl) T.is_taken.g T.is_taken.F.kp T.is_taken.b .nil pass0 (pa_cons (pe_fld (pv 0) rfl) (pa_cons (pv 1) pa_nil)))) pe_str pe_str)))), ?_⟩
    try dsimp only [cxOf]
    rcases h with ⟨t, rfl, ht, q⟩ | ⟨hv0, hE⟩
    · cases hv.str_inv
      refine ⟨_, rfl, d, T.C_Desk, dd, _, _, rfl, hd, T.cl_Desk, T.n_Desk_one, rfl, a0, T.C_Machine, dx, _, _, rfl, hat, T.cl_Machine, T.n_Machine_own_letters, rfl, _, rfl, sg, _, _, rfl, hv, hz, fun _ H1 s1 => ?_, fun z => absurd z (by show ¬ (t.all fun c => decide (c ∈ sg)) = false; rw [all_in ht]; simp)⟩
      have hd1 := s1 _ _ hd
      refine ⟨_, rfl, d, T.C_Desk, dd, _, _, rfl, hd1, T.cl_Desk, T.n_Desk_one, rfl, _, rfl, a0, t, sg, _, _, rfl, hM.same s1, ht, _, rfl, ?_⟩
      have q := q H1 s1
      show if tkn sg one t = true then _ else _
      cases e1 : tkn sg one t
      · rw [e1] at q
        refine ite_f rfl ?_
        refine ⟨_, rfl, d, T.C_Desk, dd, _, _, rfl, hd1, T.cl_Desk, T.n_Desk_other, rfl, _, rfl, b0, t, sg, _, _, rfl, hN.same s1, ht, _, rfl, ?_⟩
        show if tkn sg other t = true then _ else _
        cases e2 : tkn sg other t
        · rw [e2] at q; exact ite_f rfl q
        · rw [e2] at q; exact ite_t rfl q
      · rw [e1] at q
        refine ite_t rfl ?_
        refine ⟨_, rfl, d, T.C_Desk, dd, _, _, rfl, hd1, T.cl_Desk, T.n_Desk_other, rfl, _, rfl, b0, t, sg, _, _, rfl, hN.same s1, ht, _, rfl, ?_⟩
        show if tkn sg other t = true then _ else _
        cases e2 : tkn sg other t
        · rw [e2] at q; exact ite_f rfl q
        · rw [e2] at q; exact ite_t rfl q
    · exact ⟨_, rfl, d, T.C_Desk, dd, _, _, rfl, hd, T.cl_Desk, T.n_Desk_one, rfl, a0, T.C_Machine, dx, _, _, rfl, hat, T.cl_Machine, T.n_Machine_own_letters, rfl, _, rfl, sg, v, vd, rfl, hv, hz, fun z => (by rw [hv0] at z; cases z), fun _ => hE⟩
def spHas (T : All K mg) : Sp := fun vs H Q _ => ∃ (l : List Addr) (d : Addr) (v : V) (sg : List Nat) (one other : MV) (past : List (MV × MV)), vs = [.ref d, v] ∧ DeskS T.C_Machine T.C_Desk K l H d sg one other past ∧
  ((∃ t, v = tx t ∧ t.length ≤ 1000 ∧ (∀ c ∈ t, c ∈ sg) ∧ ∀ H', Same H H' → Q (.bl (tkn sg one t || tkn sg other t)) H') ∨
   (∃ t, v = tx t ∧ t.length ≤ 1000 ∧ (t.all fun c => decide (c ∈ sg)) = false ∧ ∀ H', Same H H' → Q (.bl false) H') ∨
   (∃ tv, TyX K H v tv ∧ PySem.W.kitOne K tv (.type "str") = some false ∧ Q (.bl false) H))
theorem ok_Desk_contains (T : All K mg) : FnOk PW w K mg base CX0 3 T.f_Desk_contains T.d_Desk_contains ["self", "value"] (spHas T) := by
  refine T.Desk_contains.F.ok sc_Desk_contains (fun vs H Q E h => ?_) (fun cdv A outer s H vs Q E hr h => ?_)
  · obtain ⟨l, d, v, sg, one, other, past, rfl, _⟩ := h
    rfl
  · obtain ⟨l, d, v, sg, one, other, past, rfl, hD, h⟩ := h
    obtain ⟨dd, a0, b0, p0, ts, hd, ha0, hb0, _⟩ := id hD.ex
    have hM := ha0.same hide_le
    have hN := hb0.same hide_le
    obtain ⟨dx, r, qq, hat, _⟩ := id hM.at_
    refine ⟨_, pss_cons (ps_if (pt_not (pt_val (pe_call (ok_is_text_overG T) (hr.mono (by decide)) (by rfl) T.is_text_over.g T.is_text_over.F.kp T.is_text_over.b .nil pass0 (pa_cons (pe_fld (pe_fld (pv 0) rfl) rfl) (pa_cons (pv 1) pa_nil))))) (pss_one (ps_ret pe_bl)) pss_nil)
      (pss_one (ps_ret (pe_or (pe_call (ok_is_taken T) (hr.mono (by decide)) (by rfl) T.is_taken.g T.is_taken.F.kp T.is_taken.b .nil pass0 (pa_cons (pe_fld (pv 0) rfl) (pa_cons (pv 1) pa_nil)))
        (pe_one (pe_call (ok_is_taken T) (hr.mono (by decide)) (by rfl) T.is_taken.g T.is_taken.F.kp T.is_taken.b .nil pass0 (pa_cons (pe_fld (pv 0) rfl) (pa_cons (pv 1) pa_nil))))))), ?_⟩
    refine ⟨_, rfl, d, T.C_Desk, dd, _, _, rfl, hd, T.cl_Desk, T.n_Desk_one, rfl, a0, T.C_Machine, dx, _, _, rfl, hat, T.cl_Machine, T.n_Machine_own_letters, rfl, _, rfl, sg, v, rfl, ?_⟩
    rcases h with ⟨t, rfl, hz, ht, q⟩ | ⟨t, rfl, hz, ht, q⟩ | ⟨tv, hty, hk, q⟩
    · refine .inl ⟨t, rfl, hz, fun H1 s1 => ?_⟩
      have hd1 := s1 _ _ hd
      rw [all_in ht]
      refine ⟨true, rfl, iteF ?_⟩
      refine ⟨_, rfl, d, T.C_Desk, dd, _, _, rfl, hd1, T.cl_Desk, T.n_Desk_one, rfl, _, rfl, a0, t, sg, _, _, rfl, hM.same s1, ht, ?_⟩
      have q := q H1 s1
      show ∃ b, V.bl (tkn sg one t) = .bl b ∧ _
      refine ⟨_, rfl, ?_⟩
      cases e1 : tkn sg one t
      · rw [e1] at q
        exact ⟨_, rfl, d, T.C_Desk, dd, _, _, rfl, hd1, T.cl_Desk, T.n_Desk_other, rfl, _, rfl, b0, t, sg, _, _, rfl, hN.same s1, ht, q⟩
      · rw [e1] at q
        exact q
    · refine .inl ⟨t, rfl, hz, fun H1 s1 => ?_⟩
      rw [ht]
      exact ⟨false, rfl, iteT (q H1 s1)⟩
    · exact .inr ⟨tv, hty, hk, false, rfl, iteT q⟩
def spDInit (T : All K mg) : Sp := fun vs H Q E => ∃ (x dd : Addr) (v1 v2 : V), vs = [.ref x, v1, v2] ∧ H x = some (.ins T.C_Desk dd []) ∧
  ((∃ (a b : Addr) (sg : List Nat) (m1 m2 : MV), v1 = .ref a ∧ v2 = .ref b ∧ MachV T.C_Machine K H a sg m1 ∧ MachV T.C_Machine K H b sg m2 ∧
      ∀ H' p, (∀ c o, H c = some o → c ≠ x → H' c = some o) → H p = none → H' p = some (.lst []) → H' x = some (.ins T.C_Desk dd [("one", .ref a), ("other", .ref b), ("own_past", .ref p)]) → Q .non H') ∨
   (∃ t, (∀ H', Same H H' → TyX K H' v1 (.type t)) ∧ plainTy t = true ∧ Rz T.C_InvalidMachine "value" v1 H E) ∨
   (∃ (a : Addr) (sg : List Nat) (m1 : MV) (t : String), v1 = .ref a ∧ MachV T.C_Machine K H a sg m1 ∧ (∀ H', Same H H' → TyX K H' v2 (.type t)) ∧ plainTy t = true ∧ Rz T.C_InvalidMachine "value" v2 H E) ∨
   (∃ (a b : Addr) (sg sg2 : List Nat) (m1 m2 : MV), v1 = .ref a ∧ v2 = .ref b ∧ MachV T.C_Machine K H a sg m1 ∧ MachV T.C_Machine K H b sg2 m2 ∧ sg ≠ sg2 ∧ Oz T.C_OtherLetters sg sg2 H E))
theorem ok_Desk_initX (T : All K mg) : FnOk PW w K mg base (L2.CX PW w) 3 T.f_Desk_init T.d_Desk_init ["self", "one", "other"] (spDInit T) := by
  refine T.Desk_init.F.okX sc_Desk_init (fun vs H Q E h => ?_) (fun cdv A outer s H vs Q E hr h => ?_)
  · obtain ⟨x, dd, v1, v2, rfl, _⟩ := h
    rfl
  · obtain ⟨x, dd, v1, v2, rfl, hx, h⟩ := h
    refine ⟨_, pss_cons (ps_for (passes_of rfl) rfl (pi_tup (pe_tup (pa_cons (pv 1) (pa_cons (pv 2) pa_nil)))) (pg_name (i := 3) sc_Desk_init.nd rfl (by first | exact Or.inl rfl | exact Or.inr rfl))
        (pss_one (ps_if (pt_not (pt_val (pe_callB call_isi (by rfl) T.b_isinstance boot_isinstance (pa_cons (pv 3) (pa_cons (pe_glob (v := .ref T.C_Machine) rfl T.g_Machine rfl) pa_nil))))) (pss_one (ps_raise1 rfl T.er_InvalidMachine.er (hr.mono (by decide)) (takes_of rfl rfl rfl rfl) T.g_InvalidMachine (pa_cons (pv 3) pa_nil))) pss_nil)))
      (pss_cons (ps_expr (pe_call (ok_want_sameA T) (hr.mono (by decide)) (by rfl) T.want_same.g T.want_same.F.kp T.want_same.b .nil (passes_call (takes_of rfl rfl rfl rfl) (fun _ _ _ _ h => h)) (pa_cons (pv 1) (pa_cons (pv 2) pa_nil))))
      (pss_cons (ps_fld (pv 0) (pv 1) rfl)
      (pss_cons (ps_fld (pv 0) (pv 2) rfl)
      (pss_one (ps_fld (pv 0) (pe_lst pa_nil) rfl))))), ?_⟩
    try dsimp only [cxOf]
    let IsM : V → Prop := fun v => ∃ (a : Addr) (sg : List Nat) (m : MV), v = .ref a ∧ MachV T.C_Machine K H a sg m
    let Bad : V → Prop := fun v => ∃ t, (∀ H', Same H H' → TyX K H' v (.type t)) ∧ plainTy t = true ∧ Rz T.C_InvalidMachine "value" v H E
    obtain ⟨c1, c2, P1, P2, P3⟩ : ∃ c1 c2 : Bool, ((c1 = false ∧ IsM v1) ∨ (c1 = true ∧ Bad v1)) ∧ (c1 = false → (c2 = false ∧ IsM v2) ∨ (c2 = true ∧ Bad v2)) ∧ (c1 = false → c2 = false →
        ∃ (a b : Addr) (sg sg2 : List Nat) (m1 m2 : MV), v1 = .ref a ∧ v2 = .ref b ∧ MachV T.C_Machine K H a sg m1 ∧ MachV T.C_Machine K H b sg2 m2 ∧
          (sg = sg2 → ∀ H' p, (∀ c o, H c = some o → c ≠ x → H' c = some o) → H p = none → H' p = some (.lst []) → H' x = some (.ins T.C_Desk dd [("one", .ref a), ("other", .ref b), ("own_past", .ref p)]) → Q .non H') ∧ (sg ≠ sg2 → Oz T.C_OtherLetters sg sg2 H E)) := by
      rcases h with ⟨a, b, sg, m1, m2, e1, e2, h1, h2, q⟩ | hb | ⟨a, sg, m1, t, e1, h1, ht, hp, hE⟩ | ⟨a, b, sg, sg2, m1, m2, e1, e2, h1, h2, hne, hE⟩
      · exact ⟨false, false, .inl ⟨rfl, a, sg, m1, e1, h1⟩, fun _ => .inl ⟨rfl, b, sg, m2, e2, h2⟩, fun _ _ => ⟨a, b, sg, sg, m1, m2, e1, e2, h1, h2, fun _ => q, fun z => absurd rfl z⟩⟩
      · exact ⟨true, true, .inr ⟨rfl, hb⟩, (fun z => by cases z), (fun z => by cases z)⟩
      · exact ⟨false, true, .inl ⟨rfl, a, sg, m1, e1, h1⟩, fun _ => .inr ⟨rfl, t, ht, hp, hE⟩, (fun _ z => by cases z)⟩
      · exact ⟨false, false, .inl ⟨rfl, a, sg, m1, e1, h1⟩, fun _ => .inl ⟨rfl, b, sg2, m2, e2, h2⟩, fun _ _ => ⟨a, b, sg, sg2, m1, m2, e1, e2, h1, h2, fun z => absurd z hne, fun _ => hE⟩⟩
    refine ⟨_, rfl, _, rfl, by show 2 ≤ sizeLine; decide, fun q0 nq => ?_⟩
    have s0 := same_upd (o := .tup [v1, v2]) nq
    have hq0 := upd_same (H := H) (a := q0) (o := .tup [v1, v2])
    have nqx : q0 ≠ x := fun e => by rw [e, hx] at nq; cases nq
    generalize upd H q0 (.tup [v1, v2]) = H0 at *
    have step : ∀ (v : V) (c : Bool) (D : Ends) (g : Option V), ((c = false ∧ IsM v) ∨ (c = true ∧ Bad v)) → (c = false → D.nx [some (.ref x), some v1, some v2, some v] H0) → tIfS (tNot (tB (tCB (rIsi K) (tCons (tVar 3) (tCons (tC (V.ref T.C_Machine)) tNil)))))
        (fun x σ H => tMk1 T.C_InvalidMachine "value" (tCons (tVar 3) tNil) σ H fun cls d H' => E cls d H') tNext D [some (.ref x), some v1, some v2, some v] H0 := fun v c D g hc k => by
      rcases hc with ⟨hc, a, sg, m, rfl, hM⟩ | ⟨hc, t, ht, hp, hE⟩
      · exact ⟨_, rfl, _, .ref T.C_Machine, .ref T.C_Machine, .ref T.C_Machine, true, rfl, .own _, ty_mach T (hM.same s0), kit_own T, true, rfl, iteF (k hc)⟩
      · exact ⟨_, rfl, v, .ref T.C_Machine, .type t, .ref T.C_Machine, false, rfl, .own _, ht _ s0, kit_plain T hp, false, rfl, iteT ⟨_, rfl, _, rfl, fun e ne => hE _ e (s0.trans (same_upd ne)) upd_same⟩⟩
    refine ⟨q0, rfl, ⟨_, .inl (.inl hq0)⟩, for_it (walk_tup (xs := [v1, v2])) (fun i σ H' => ∃ g, σ = [some (.ref x), some v1, some v2, g] ∧ H' = H0 ∧ (1 ≤ i → c1 = false) ∧ (2 ≤ i → c2 = false)) ⟨none, rfl, rfl, (fun z => by omega), fun z => by omega⟩ (fun _ _ H' _ pp => by obtain ⟨_, _, rfl, _⟩ := pp; exact .inl (.inl hq0)) (fun i y σ H1 H2 hi pp yy => ?_) (fun σ H' pp => ?_)⟩
    · obtain ⟨g, rfl, rfl, k1, k2⟩ := pp
      obtain ⟨rfl, yy⟩ := yy
      match i, yy with
      | 0, yy =>
        cases yy
        exact step v1 c1 _ g P1 fun e => ⟨_, rfl, rfl, fun _ => e, fun z => by omega⟩
      | 1, yy =>
        cases yy
        have e1 := k1 (Nat.le_refl _)
        exact step v2 c2 _ g (P2 e1) fun e => ⟨_, rfl, rfl, fun _ => e1, fun _ => e⟩
      | i + 2, yy => cases yy
    · obtain ⟨g, rfl, rfl, k1, k2⟩ := pp
      obtain ⟨a, b, sg, sg2, m1, m2, rfl, rfl, h1, h2, q, qE⟩ := P3 (k1 (by show 1 ≤ 2; decide)) (k2 (by show 2 ≤ 2; decide))
      have hx0 := s0 _ _ hx
      refine ⟨_, rfl, _, rfl, a, b, sg, sg2, _, _, _, _, rfl, h1.same s0, h2.same s0, fun e => ?_, fun e => (qE e).same s0⟩
      refine ⟨_, rfl, _, rfl, x, T.C_Desk, dd, _, rfl, hx0, T.cl_Desk, T.n_Desk_one, by show 0 < 1000; decide, ?_⟩
      refine ⟨_, rfl, _, rfl, x, T.C_Desk, dd, _, rfl, upd_same, T.cl_Desk, T.n_Desk_other, by show 1 < 1000; decide, ?_⟩
      refine ⟨by show 0 ≤ sizeLine; decide, fun p np => ?_⟩
      have nxp : x ≠ p := fun e => by rw [← e, upd_same] at np; cases np
      have np0 : H' p = none := by rw [upd_ne nxp.symm, upd_ne nxp.symm] at np; exact np
      refine ⟨_, rfl, x, T.C_Desk, dd, _, rfl, by rw [upd_ne nxp, upd_same], T.cl_Desk, T.n_Desk_own_past, by show 2 < 1000; decide, ?_⟩
      refine q e _ p (fun c o ec nc => ?_) (s0.free np0) (by rw [upd_ne nxp.symm, upd_same]) upd_same
      rw [upd_ne nc, upd_ne (ne_of_none (s0 _ _ ec) np0), upd_ne nc, upd_ne nc]
      exact s0 _ _ ec
end
end Lw
namespace Lw
open PySem PySem.Spec PyProof.Rows L3
open L2 hiding del del_same del_ne
section
variable {P : Program} {w : World} {K : PySem.W.Frag} {mg : Str → Option Value} {base : Heap}
/-- a pot: two numbers -/
def Pot (H : Hp) (a : Addr) : Prop := ∃ x y : Int, H a = some (.lst [.int x, .int y]) ∧ 0 ≤ x ∧ 0 ≤ y ∧ y < 4294967296
/-- all but a stays -/
def Off (a : Addr) (H H' : Hp) : Prop := ∀ b o, H b = some o → b ≠ a → H' b = some o
theorem Off.refl (a : Addr) (H : Hp) : Off a H H := fun _ _ e _ => e
theorem Off.trans {a : Addr} {H H1 H2 : Hp} (x : Off a H H1) (y : Off a H1 H2) : Off a H H2 := fun b o e n => y b o (x b o e n) n
theorem Off.of {a : Addr} {H H' : Hp} (s : Same H H') : Off a H H' := fun b o e _ => s b o e
theorem Off.up {a p : Addr} {H H' : Hp} {o : HO} (x : Off a H H') (h : H p = none) : Off a H (upd H' p o) := fun b u e n => by
  rw [upd_ne (ne_of_none e h)]
  exact x b u e n
theorem Off.at {a : Addr} {H H' : Hp} {o : HO} (x : Off a H H') : Off a H (upd H' a o) := fun b u e n => by
  rw [upd_ne n]
  exact x b u e n
theorem Pot.some {H : Hp} {a : Addr} (h : Pot H a) : H a ≠ none := fun e => by
  obtain ⟨x, y, h, _⟩ := h
  rw [e] at h
  cases h
theorem Off.free {a : Addr} {H H' : Hp} (x : Off a H H') {l : Addr} (h : H' l = none) (hp : Pot H' a) : H l = none := by
  cases q : H l with
  | none => rfl
  | some o =>
    by_cases e : l = a
    · subst e
      exact absurd h hp.some
    · rw [x l o q e] at h
      cases h
theorem Off.seq {K : PySem.W.Frag} {a l : Addr} {H H' : Hp} {xs : List V} (x : Off a H H') (n : l ≠ a) (h : SqL K H l xs) : SqL K H' l xs := by
  rcases h with (h | ⟨o, h⟩) | h
  · exact .inl (.inl (x _ _ h n))
  · exact .inl (.inr ⟨o, x _ _ h n⟩)
  · exact .inr h
def spPot (K : PySem.W.Frag) : Sp := fun vs H Q _ => ∃ (a : Addr) (ns : List Int) (k : Nat), vs = [.ref a, .int (k : Int)] ∧ SqL K H a (ns.map V.int) ∧ k ≤ 10 ∧ ∀ H' p, Same H H' → H p = none → Pot H' p → Q (.ref p) H'
theorem pot_fin {H : Hp} {p : Addr} {z : Int} (x : Int) : Pot (upd H p (.lst [.int (if x > 0 then x else 0), .int (z % 2147483579 + 1)])) p := by
  refine ⟨_, _, upd_same, ?_, ?_, ?_⟩
  · split <;> omega
  · omega
  · omega
theorem ok_law_pot (T : All K mg) : FnOk P w K mg base CX0 1 T.f_law_pot T.d_law_pot ["_law_script", "_law_k"] (spPot K) := by
  refine T.law_pot.F.ok sc_law_pot (fun vs H Q E h => ?_) (fun cdv A outer s H vs Q E hr h => ?_)
  · obtain ⟨a, ns, k, rfl, _⟩ := h
    rfl
  · obtain ⟨a, ns, k, rfl, hS, hk, q⟩ := h
    refine ⟨_, pss_cons (ps_set (i := 2) sc_law_pot.nd rfl (.inl rfl) (pe_op op_add (pe_op op_mul pe_int (pv 1)) pe_int))
      (pss_cons (ps_if (pt_cmpR op_lt (pv 1) (pe_callB call_len_seq (by rfl) T.b_len PySem.boot_len (pa_cons (pv 0) pa_nil)) (nomark _))
        (pss_one (ps_set (i := 2) sc_law_pot.nd rfl (.inl rfl) (pe_callB call_abs (by rfl) T.b_abs PyProof.Rows.boot_abs (pa_cons (pe_ix ix_list (pv 0) (pv 1) (fun _ _ => rfl)) pa_nil)))) pss_nil)
      (pss_one (ps_ret (pe_lst (pa_cons (pe_callB (call_max2 rfl) (by rfl) T.b_max PyProof.Rows.boot_max (pa_cons pe_int (pa_cons (pe_op op_sub (pv 2) (pe_op op_pow pe_int pe_int)) pa_nil)))
        (pa_cons (pe_op op_add (pe_op op_mod (pe_callTy call_int1 (by rfl) T.b_int PyProof.Rows.boot_int (pa_cons (pe_op op_add (pe_op op_add (pe_op op_mul (pe_op op_mod (pe_callTy call_int1 (by rfl) T.b_int PyProof.Rows.boot_int (pa_cons (pv 2) pa_nil)) pe_int) pe_int) (pe_op op_mul pe_int (pv 1))) pe_int) pa_nil)) pe_int) pe_int) pa_nil)))))), ?_⟩
    refine ⟨_, rfl, _, _, rfl, rfl, .inl ⟨by decide, by decide⟩, _, _, rfl, rfl, ?_⟩
    refine ⟨_, rfl, _, rfl, a, ns.map V.int, rfl, .inl hS, _, _, rfl, rfl, _, rfl, ite2 (fun e => ?_) (fun e => ?_)⟩
    · have hlt : k < ns.length := by
        have := of_decide_eq_true e
        rw [List.length_map] at this
        omega
      refine ⟨_, rfl, _, rfl, a, _, _, .int ns[k], rfl, rfl, hS, atI_nat (by rw [List.getElem?_map, List.getElem?_eq_getElem hlt]; rfl), _, rfl, ?_⟩
      refine ⟨_, rfl, 10, 18, rfl, rfl, ⟨by decide, by decide, by decide⟩, _, _, rfl, rfl, _, _, rfl, ?_⟩
      refine ⟨_, rfl, .inl ⟨_, rfl, _, _, rfl, rfl, (by show (0 : Int) < 2147483549; decide), _, _, rfl, rfl, .inr ⟨by decide, by decide⟩, _, rfl, _, _, rfl, rfl, .inl ⟨by decide, by decide⟩, _, _, rfl, rfl, _, _, rfl, rfl,
        .inl ⟨_, rfl, _, _, rfl, rfl, (by show (0 : Int) < 2147483579; decide), _, _, rfl, rfl, (by show 2 ≤ sizeLine; decide), fun p np => ?_⟩⟩⟩
      exact q _ p (same_upd np) np (pot_fin _)
    · refine ⟨_, rfl, 10, 18, rfl, rfl, ⟨by decide, by decide, by decide⟩, _, _, rfl, rfl, _, _, rfl, ?_⟩
      refine ⟨_, rfl, .inl ⟨_, rfl, _, _, rfl, rfl, (by show (0 : Int) < 2147483549; decide), _, _, rfl, rfl, .inr ⟨by decide, by decide⟩, _, rfl, _, _, rfl, rfl, .inl ⟨by decide, by decide⟩, _, _, rfl, rfl, _, _, rfl, rfl,
        .inl ⟨_, rfl, _, _, rfl, rfl, (by show (0 : Int) < 2147483579; decide), _, _, rfl, rfl, (by show 2 ≤ sizeLine; decide), fun p np => ?_⟩⟩⟩
      exact q _ p (same_upd np) np (pot_fin _)
def spDraw : Sp := fun vs H Q _ => ∃ (a : Addr) (n : Nat), vs = [.ref a, .int (n : Int)] ∧ Pot H a ∧ 0 < n ∧ n ≤ 1000000 ∧ ∀ (H' : Hp) (d : Nat), d < n → Pot H' a → Off a H H' → Q (.int (d : Int)) H'
theorem ix2_0 {x y : V} : ixN [x, y].length (0 : Int) = some 0 := rfl
theorem ix2_1 {x y : V} : ixN [x, y].length (1 : Int) = some 1 := rfl
theorem ok_law_draw (T : All K mg) : FnOk P w K mg base CX0 1 T.f_law_draw T.d_law_draw ["_law_pot_here", "_law_sides"] spDraw := by
  refine T.law_draw.F.ok sc_law_draw (fun vs H Q E h => ?_) (fun cdv A outer s H vs Q E hr h => ?_)
  · obtain ⟨a, n, rfl, _⟩ := h
    rfl
  · obtain ⟨a, n, rfl, hp, hn, hn2, q⟩ := h
    obtain ⟨x, y, ha, hx, hy, hy2⟩ := hp
    refine ⟨_, pss_cons (ps_if (pt_cmpR op_gt (pe_ix ix_list (pv 0) pe_int (fun _ _ => rfl)) pe_int (nomark _))
        (pss_cons (ps_asg (pe_callB call_divmod (by rfl) T.b_divmod PyProof.Rows.boot_divmod (pa_cons (pe_ix ix_list (pv 0) pe_int (fun _ _ => rfl)) (pa_cons (pv 1) pa_nil))) (pg_tup (by rfl) (pgs_cons (pg_sub (pv 0) pe_int set_list) (pgs_cons (pg_name (i := 2) sc_law_draw.nd rfl (.inl rfl)) pgs_nil))))
        (pss_one (ps_ret (pv 2)))) pss_nil)
      (pss_cons (ps_asg (pe_op op_mod (pe_callTy call_int1 (by rfl) T.b_int PyProof.Rows.boot_int (pa_cons (pe_op op_add (pe_op op_mul (pe_ix ix_list (pv 0) pe_int (fun _ _ => rfl)) pe_int) pe_int) pa_nil)) pe_int) (pg_sub (pv 0) pe_int set_list))
      (pss_one (ps_ret (pe_op op_mod (pe_callTy call_int1 (by rfl) T.b_int PyProof.Rows.boot_int (pa_cons (pe_op op_fdiv (pe_op op_mod (pe_callTy call_int1 (by rfl) T.b_int PyProof.Rows.boot_int (pa_cons (pe_op op_mul (pe_ix ix_list (pv 0) pe_int (fun _ _ => rfl)) (pe_ix ix_list (pv 0) pe_int (fun _ _ => rfl))) pa_nil)) pe_int) pe_int) pa_nil)) (pv 1))))), ?_⟩
    refine ⟨_, rfl, a, _, _, .int x, rfl, rfl, .inl (.inl ha), rfl, _, _, rfl, rfl, _, rfl, ite2 (fun e => ?_) (fun e => ?_)⟩
    · -- the pot's own digits
      have hx0 : 0 < x := of_decide_eq_true e
      refine ⟨_, rfl, a, _, _, .int x, rfl, rfl, .inl (.inl ha), rfl, _, rfl, x, n, rfl, ⟨by omega, by omega⟩, fun t nt => ?_⟩
      have nat' : a ≠ t := ne_of_none ha nt
      have ha2 : upd H t (.tup [.int (x / n), .int (x % n)]) a = some (.lst [.int x, .int y]) := by rw [upd_ne nat']; exact ha
      refine ⟨t, _, rfl, .inl (.inl upd_same), rfl, _, _, rfl, _, rfl, a, _, _, 0, rfl, rfl, ha2, ix2_0, _, _, rfl, rfl, ?_⟩
      have h0 := Int.emod_nonneg x (show (n : Int) ≠ 0 by omega)
      have h1 := Int.emod_lt_of_pos x (show (0 : Int) < (n : Int) by omega)
      obtain ⟨d, hd⟩ := Int.eq_ofNat_of_zero_le h0
      refine ⟨_, rfl, ?_⟩
      rw [hd]
      refine q _ d (by omega) ⟨x / n, y, upd_same, Int.ediv_nonneg hx (by omega), hy, hy2⟩ (Off.at (Off.up (Off.refl a H) nt))
    · -- the mixed number
      refine ⟨_, rfl, a, _, _, .int y, rfl, rfl, .inl (.inl ha), rfl, y, _, rfl, rfl, .inl ⟨by omega, by omega⟩, _, _, rfl, rfl, .inl ⟨_, rfl, _, _, rfl, rfl, (by show (0 : Int) < 2147483563; decide), ?_⟩⟩
      refine ⟨_, rfl, a, _, _, 1, rfl, rfl, ha, ix2_1, ?_⟩
      have hz := Int.emod_nonneg (y * 40014 + 22630) (show (2147483563 : Int) ≠ 0 by decide)
      have hz2 := Int.emod_lt_of_pos (y * 40014 + 22630) (show (0 : Int) < 2147483563 by decide)
      obtain ⟨z, hz0⟩ : ∃ z, (y * 40014 + 22630) % 2147483563 = z := ⟨_, rfl⟩
      have hA : upd H a (.lst ([V.int x, V.int y].set 1 ((fun i j => V.int (i % j)) (y * 40014 + 22630) 2147483563))) a = some (.lst [.int x, .int z]) := by
        rw [upd_same]
        show some (HO.lst [V.int x, V.int ((y * 40014 + 22630) % 2147483563)]) = _
        rw [hz0]
      rw [hz0] at hz hz2
      refine ⟨_, rfl, a, _, _, .int z, rfl, rfl, .inl (.inl hA), rfl, _, rfl, a, _, _, .int z, rfl, rfl, .inl (.inl hA), rfl, z, z, rfl, rfl, .inl ⟨by omega, by omega⟩,
        .inl ⟨_, rfl, _, _, rfl, rfl, (by show (0 : Int) < 2147483543; decide), _, _, rfl, rfl, ⟨by decide, by decide⟩, .inl ⟨_, rfl, _, rfl, _, _, rfl, rfl, (by show (0 : Int) < (n : Int); omega), ?_⟩⟩⟩
      have h0 := Int.emod_nonneg (z * z % 2147483543 / 15) (show (n : Int) ≠ 0 by omega)
      have h1 := Int.emod_lt_of_pos (z * z % 2147483543 / 15) (show (0 : Int) < (n : Int) by omega)
      obtain ⟨d, hd⟩ := Int.eq_ofNat_of_zero_le h0
      show Q (.int (z * z % 2147483543 / 15 % (n : Int))) _
      rw [hd]
      exact q _ d (by omega) ⟨x, z, hA, hx, hz, by omega⟩ (Off.at (Off.refl a H))
def spPick (K : PySem.W.Frag) : Sp := fun vs H Q _ => ∃ (a : Addr) (x : V), vs = [.ref a, x] ∧ Pot H a ∧
  ((∃ l : List Nat, x = tx l ∧ l ≠ [] ∧ l.length ≤ 1000 ∧ ∀ (H' : Hp) (c : Nat), c ∈ l → Pot H' a → Off a H H' → Q (tx [c]) H') ∨
   ∃ (b : Addr) (xs : List V), x = .ref b ∧ b ≠ a ∧ SqL K H b xs ∧ xs ≠ [] ∧ xs.length ≤ 1000 ∧ ∀ (H' : Hp) (v : V), v ∈ xs → Pot H' a → Off a H H' → Q v H')
theorem ok_law_pick (T : All K mg) : FnOk P w K mg base CX0 2 T.f_law_pick T.d_law_pick ["_law_pot_here", "_law_some"] (spPick K) := by
  refine T.law_pick.F.ok sc_law_pick (fun vs H Q E h => ?_) (fun cdv A outer s H vs Q E hr h => ?_)
  · obtain ⟨a, x, rfl, _⟩ := h
    rfl
  · obtain ⟨a, x, rfl, hp, h⟩ := h
    refine ⟨_, pss_one (ps_ret (pe_ix ix_seq (pv 1) (pe_call (ok_law_draw T) hr (by rfl) T.law_draw.g T.law_draw.F.kp T.law_draw.b .nil pass0 (pa_cons (pv 0) (pa_cons (pe_callB call_len (by rfl) T.b_len PySem.boot_len (pa_cons (pv 1) pa_nil)) pa_nil))) (fun _ _ => rfl))), ?_⟩
    rcases h with ⟨l, rfl, hl, hl2, q⟩ | ⟨b, xs, rfl, hba, hS, hl, hl2, q⟩
    · have hpos : 0 < l.length := List.length_pos_iff.mpr hl
      refine ⟨_, rfl, _, rfl, _, rfl, _, l.length, rfl, ⟨by rw [tS_len, sizeLine_eq]; omega, (tS_len l).symm⟩, a, l.length, rfl, hp, hpos, by omega, fun H' d hd hp' ho => ?_⟩
      refine .inr (.inr ⟨_, _, l[d], rfl, rfl, by rw [tS_len, sizeLine_eq]; omega, atI_nat (by simp [hd]), ?_⟩)
      exact q H' l[d] (List.getElem_mem hd) hp' ho
    · have hpos : 0 < xs.length := List.length_pos_iff.mpr hl
      refine ⟨_, rfl, _, rfl, _, rfl, _, xs.length, rfl, .inl ⟨xs, hS, rfl⟩, a, xs.length, rfl, hp, hpos, by omega, fun H' d hd hp' ho => ?_⟩
      refine .inl ⟨b, xs, _, xs[d], rfl, rfl, ho.seq hba hS, atI_nat (List.getElem?_eq_getElem hd), ?_⟩
      exact q H' xs[d] (List.getElem_mem hd) hp' ho
theorem Pot.up {H : Hp} {a p : Addr} {o : HO} (h : Pot H a) (n : a ≠ p) : Pot (upd H p o) a := by
  obtain ⟨x, y, e, r⟩ := h
  exact ⟨x, y, by rw [upd_ne n]; exact e, r⟩
theorem Pot.ne {H : Hp} {a p : Addr} (h : Pot H a) (e : H p = none) : a ≠ p := fun z => h.some (by rw [z]; exact e)
theorem Pot.same {H H' : Hp} {a : Addr} (h : Pot H a) (s : Same H H') : Pot H' a := by
  obtain ⟨x, y, e, r⟩ := h
  exact ⟨x, y, s _ _ e, r⟩
theorem off_del {a : Addr} {H H' : Hp} (x : Off a H H') : Same (del H a) (del H' a) := fun b o e => by
  unfold del at e ⊢
  by_cases h : b = a
  · rw [if_pos h] at e; cases e
  · rw [if_neg h] at e ⊢; exact x b o e h
end
end Lw
namespace Lw
open PySem PySem.Spec PyProof.Rows L3
open L2 hiding del del_same del_ne
theorem off_step {a D : Addr} {H X Y : Hp} (x : Off a H (del X D)) (y : Off a X Y) : Off a H (del Y D) := fun b o e n => by
  have h1 := x b o e n
  have hb : b ≠ D := fun z => by rw [z, del_at] at h1; cases h1
  rw [del_ne hb] at h1 ⊢
  exact y b o h1 n
theorem off_in {a D : Addr} {H X : Hp} (x : Off a H (del X D)) : Off a H X := fun b o e n => del_same _ _ _ _ (x b o e n)
theorem pot_in {a D : Addr} {H : Hp} (h : Pot (del H D) a) : Pot H a := h.same (del_same _ _)
theorem pot_out {a D : Addr} {H : Hp} (h : Pot H a) (n : a ≠ D) : Pot (del H D) a := by
  obtain ⟨x, y, e, r⟩ := h
  exact ⟨x, y, by rw [del_ne n]; exact e, r⟩
theorem off_dd {a D : Addr} {H X : Hp} (x : Off a H X) : Same (del (del H D) a) (del (del X D) a) := fun b o e => by
  have ha : b ≠ a := fun z => by rw [z, del_at] at e; cases e
  rw [del_ne ha] at e ⊢
  have hd : b ≠ D := fun z => by rw [z, del_at] at e; cases e
  rw [del_ne hd] at e ⊢
  exact x b o e ha
theorem nV_take (l : List Nat) (n : Nat) : (nV l).take n = nV (l.take n) := by unfold nV; rw [List.map_take]
theorem nV_app (l m : List Nat) : nV l ++ nV m = nV (l ++ m) := by unfold nV; rw [List.map_append]
/-- lc_data, where one more place is left out -/
theorem lc_dataX {K : PySem.W.Frag} {J : It} {n : Nat} {G : Hp → Prop} {Y : Nat → Hp → V → Hp → Prop} (w : Walk J n G Y) {g : TG} {te : TE} {vs : List Nat} {σ : L2.St} {H1 : Hp} {D : Addr} {Qd : Hp → Prop} (a : Addr) (ds : List PyData) (hn : ds.length = n) (hz : n ≤ sizeLine)
    (nD : H1 D = none) (hG : ∀ H, Same H1 H → G H)
    (hs : ∀ i x H H' acc d (C : VK), i < n → Same H1 H → H D = some (.lst acc) → Y i H x H' → ds[i]? = some d → (∀ v H4, Same H H4 → Dp K (del (del H4 D) a) v d → C v H4) → g x (wipe σ vs) H' fun σ2 H2 => wipe σ2 vs = wipe σ vs ∧ te σ2 H2 C)
    (hgm : ∀ x σ H (Q Q' : L2.St → Hp → Prop), (∀ σ2 H2, Q σ2 H2 → Q' σ2 H2) → g x σ H Q → g x σ H Q')
    (hd : ∀ H xs, Same H1 H → H D = some (.lst xs) → DpAll K (del (del H D) a) xs ds → Qd H) :
    ∃ W : Nat → Nat → Hp → Prop, (∃ m, W 0 m (upd H1 D (.lst []))) ∧ ∀ i m H, W i m H →
      (J.stop i H ∧ Qd H) ∨ (J.go i H ∧ ∃ Nx : Hp → Prop, (∀ H', Nx H' → ∃ m', m' < m ∧ W (i + 1) m' H') ∧ ∀ x H', J.yld i H x H' → g x (wipe σ vs) H' fun σ2 H2 => wipe σ2 vs = wipe σ vs ∧ tYes σ2 H2 fun b H3 =>
        if b = true then te σ2 H3 fun y H4 => ∃ acc, H4 D = some (.lst acc) ∧ acc.length < sizeLine ∧ Nx (upd H4 D (.lst (acc ++ [y]))) else Nx H3) := by
  refine lc_dp w (fun i acc H => Same H1 H ∧ DpAll K (del H a) acc (ds.take i)) hz (fun i acc H p => ?_) nD ⟨Same.refl _, .nil⟩ (fun i acc H p _ => hG H (p.1.trans (del_same _ _))) (fun i x H H' acc C N hi p hD y c nn => ?_) (fun H xs hD p => ?_)
  · rw [dpAll_len p.2, List.length_take]; omega
  · have hlt : i < ds.length := by omega
    refine hgm _ _ _ _ _ (fun σ2 H2 h => ⟨h.1, yes_te h.2⟩) (hs i x H H' acc ds[i] C hi (p.1.trans (del_same _ _)) hD y (List.getElem?_eq_getElem hlt) fun v H4 s4 d4 => ?_)
    have s5 := del_mono D s4
    refine c v H4 (s4 _ _ hD) ⟨p.1.trans s5, ?_⟩
    rw [List.take_add_one, List.getElem?_eq_getElem hlt]
    exact dpAll_app (DpAll.same (del_mono a s5) p.2) (.cons d4 .nil)
  · have e : ds.take n = ds := by rw [← hn]; exact List.take_length
    rw [e] at p
    exact hd H xs (p.1.trans (del_same _ _)) hD p.2
theorem cutV_n (xs : List V) (m : Nat) : cutV xs none (some (m : Int)) = xs.take m := by
  unfold cutV
  rw [HT.sIx_none, HT.sIx_nat, List.drop_zero, Nat.sub_zero]
  rcases Nat.le_total m xs.length with h | h
  · rw [Nat.min_eq_left h]
  · rw [Nat.min_eq_right h, List.take_length, List.take_of_length_le h]
/-- what is added of a row: what is neither there nor ahead in the row -/
def fresh (f r : List Nat) : Nat → List Nat
  | 0 => []
  | i + 1 => match r[i]? with
    | some g => if g ∈ f ++ r.take i then fresh f r i else fresh f r i ++ [g]
    | none => fresh f r i
theorem fresh_fold (f r : List Nat) : ∀ i, f ++ fresh f r i = (r.take i).foldl M14.addG f
  | 0 => by simp [fresh]
  | i + 1 => by
    have ih := fresh_fold f r i
    unfold fresh
    cases e : r[i]? with
    | none =>
      have hle : r.length ≤ i := List.getElem?_eq_none_iff.mp e
      dsimp only
      rw [List.take_of_length_le (by omega), ih, List.take_of_length_le hle]
    | some g =>
      dsimp only
      rw [List.take_add_one, e, List.foldl_append, ← ih]
      show _ = M14.addG (f ++ fresh f r i) g
      have hm : g ∈ f ++ fresh f r i ↔ g ∈ f ++ r.take i := by
        rw [ih, M14.fold_mem, List.mem_append]
      by_cases h : g ∈ f ++ r.take i
      · rw [if_pos h]
        unfold M14.addG
        rw [if_pos (hm.mpr h)]
      · rw [if_neg h]
        unfold M14.addG
        rw [if_neg (fun z => h (hm.mp z)), List.append_assoc]
theorem fresh_len (f r : List Nat) : ∀ i, (fresh f r i).length ≤ i
  | 0 => Nat.le_refl _
  | i + 1 => by
    have ih := fresh_len f r i
    unfold fresh
    split
    · split
      · omega
      · rw [List.length_append, List.length_singleton]; omega
    · omega
theorem dLR_row {K : PySem.W.Frag} {H : Hp} {v : V} {R : List (List Nat)} (h : Dp K H v (dLR R)) : ∃ va xs, v = .ref va ∧ SqL K H va xs ∧ xs.length = R.length ∧ ∀ p, p < R.length → ∃ b, xs[p]? = some (.ref b) ∧ SqL K H b (nV (M14.row R p)) := by
  obtain ⟨va, xs, rfl, hS, hA⟩ := dp_list h
  have hxl := dpAll_len hA
  rw [List.length_map] at hxl
  refine ⟨va, xs, rfl, hS, hxl, fun p hp => ?_⟩
  have hx : xs[p]? = some (xs[p]'(by omega)) := List.getElem?_eq_getElem (by omega)
  generalize xs[p]'(by omega) = x at hx
  obtain ⟨d, h1, h2⟩ := dpAll_back hA hx
  rw [List.getElem?_map, M14.row_at hp] at h1
  cases h1
  obtain ⟨b, ys, rfl, hS2, hA2⟩ := dp_list h2
  rw [dpAll_nats hA2] at hS2
  exact ⟨b, hx, hS2⟩
section
variable {P : Program} {w : World} {K : PySem.W.Frag} {mg : Str → Option Value} {base : Heap}
theorem get_D {bs : List V} {p : Nat} (h : p < bs.length) : bs[p]? = some (bs.getD p .non) := by
  rw [List.getD_eq_getElem?_getD, List.getElem?_eq_getElem h]
  rfl
def metK (R : List (List Nat)) (k : List Bool) : List Bool := (M14.met R 0).map (M14.kAt k)
def metR (R : List (List Nat)) : List (List Nat) := M14.ren (M14.met R 0) R
def spLMet (K : PySem.W.Frag) : Sp := fun vs H Q _ => ∃ (a : Addr) (o : HO) (v : V) (kb : Addr) (R : List (List Nat)) (bs : List V), vs = [v, .ref kb] ∧ H a = some o ∧ Dp K (del H a) v (dLR R) ∧ SqL K H kb bs ∧ M14.Val R ∧ 0 < R.length ∧ R.length ≤ 40 ∧ (∀ r ∈ R, r.length ≤ 3) ∧ bs.length = R.length ∧ ∀ H' t qa qb, Same H H' → SqT K H' t [.ref qa, .ref qb] → a ≠ t → Dp K (del H' a) (.ref qa) (dLR (metR R)) → a ≠ qb → H' qb = some (.lst ((M14.met R 0).map fun p => bs.getD p .non)) → Q (.ref t) H'
theorem ok_law_met (T : All K mg) : FnOk P w K mg base CX0 1 T.f_law_met T.d_law_met ["_law_lines_here", "_law_sorts"] (spLMet K) := by
  refine T.law_met.F.ok sc_law_met (fun vs H Q E h => ?_) (fun cdv A outer s H vs Q E hr h => ?_)
  · obtain ⟨a, o, v, kb, R, bs, rfl, _⟩ := h
    rfl
  · obtain ⟨a, o, v, kb, R, bs, rfl, ha0, hv, hb, hval, hne, hfew, hrl, hk, q⟩ := h
    obtain ⟨va, xs, rfl, hS, hxl, hrow⟩ := dLR_row (Dp.same (del_same H a) hv)
    refine ⟨_, pss_cons (ps_set (i := 2) sc_law_met.nd rfl (by first | exact Or.inl rfl | exact Or.inr rfl) (pe_lst (pa_cons pe_int pa_nil)))
      (pss_cons (ps_for PassesOwn.never rfl (pi_range1 rfl T.b_range (pa_cons (pe_callB call_len_seq (by rfl) T.b_len PySem.boot_len (pa_cons (pv 0) pa_nil)) pa_nil)) (pg_name (i := 3) sc_law_met.nd rfl (by first | exact Or.inl rfl | exact Or.inr rfl))
        (pss_one (ps_if (pt_cmpR op_lt (pv 3) (pe_callB call_len_seq (by rfl) T.b_len PySem.boot_len (pa_cons (pv 2) pa_nil)) (nomark _)) (pss_one (ps_expr (pe_bm PySem.F.plainAttrs_list PySem.F.slot_list_extend PySem.F.type_list_extend mt_extend (pv 2) (pa_cons (pe_lc (own := [("_law_at", 4), ("_law_goal", 5)]) rfl sc_law_met.nd (pi_enumS rfl T.b_enumerate (pa_cons (pe_ix ix_list (pv 0) (pe_ix ix_list (pv 2) (pv 3) (fun _ _ => rfl)) (fun _ _ => rfl)) pa_nil))
          (blkOk_by (own := [("_law_at", 4), ("_law_goal", 5)]) (N := ["_law_lines_here", "_law_sorts", "_law_met_here", "_law_turn", "_law_at", "_law_goal", "_law_place"]) (sc := defScope s_law_met) (by decide +kernel))
          (fun _ _ _ _ _ => (pg_tupK (K := K) (n := 2) rfl rfl (pgs_cons (pg_name (i := 4) sc_law_met.nd rfl (Or.inl rfl)) (pgs_cons (pg_name (i := 5) sc_law_met.nd rfl (Or.inl rfl)) pgs_nil)) rfl)) (fun _ _ _ _ _ => (pts_one (pt_cmpR (op_notInNK (K := K) rfl) (pv 5) (pe_op op_cat (pv 2) (pe_slice (sl_listK (K := K) rfl) (pe_ix (ix_listK (K := K) rfl) (pv 0) (pe_ix (ix_listK (K := K) rfl) (pv 2) (pv 3) (fun _ _ => rfl)) (fun _ _ => rfl)) po_none (po_some (pv 4)))) (by rfl))))
          (fun _ _ _ _ _ => (pv 5))) pa_nil)))) pss_nil)))
      (pss_one (ps_ret (pe_tup (pa_cons (pe_lc (own := [("_law_place", 6)]) (g := gName 6) (tt := tYes) rfl sc_law_met.nd (pi_list (pv 2))
          (blkOk_by (own := [("_law_place", 6)]) (N := ["_law_lines_here", "_law_sorts", "_law_met_here", "_law_turn", "_law_at", "_law_goal", "_law_place"]) (sc := defScope s_law_met) (by decide +kernel))
          (fun _ _ _ _ _ => pg_name (i := 6) sc_law_met.nd rfl (by first | exact Or.inl rfl | exact Or.inr rfl)) (fun _ _ _ _ _ => pts_nil)
          (fun _ _ _ _ _ => (pe_lc (own := [("_law_goal", 5)]) (g := gName 5) (tt := tYes) rfl sc_law_met.nd (pi_listK (K := K) rfl (pe_ix (ix_listK (K := K) rfl) (pv 0) (pv 6) (fun _ _ => rfl)))
          (blkOk_by (own := [("_law_goal", 5)]) (N := ["_law_lines_here", "_law_sorts", "_law_met_here", "_law_turn", "_law_at", "_law_goal", "_law_place"]) (by first | kernel_rfl | rfl))
          (fun _ _ _ _ _ => pg_name (i := 5) sc_law_met.nd rfl (by first | exact Or.inl rfl | exact Or.inr rfl)) (fun _ _ _ _ _ => pts_nil)
          (fun _ _ _ _ _ => (pe_bmk (K := K) rfl PySem.F.plainAttrs_list PySem.F.slot_list_index PySem.F.type_list_index (mt_indexNK (K := K) rfl) (pv 2) (pa_cons (pv 5) pa_nil)))))) (pa_cons (pe_lc (own := [("_law_place", 6)]) (g := gName 6) (tt := tYes) rfl sc_law_met.nd (pi_list (pv 2))
          (blkOk_by (own := [("_law_place", 6)]) (N := ["_law_lines_here", "_law_sorts", "_law_met_here", "_law_turn", "_law_at", "_law_goal", "_law_place"]) (sc := defScope s_law_met) (by decide +kernel))
          (fun _ _ _ _ _ => pg_name (i := 6) sc_law_met.nd rfl (by first | exact Or.inl rfl | exact Or.inr rfl)) (fun _ _ _ _ _ => pts_nil)
          (fun _ _ _ _ _ => (pe_ix (ix_listK (K := K) rfl) (pv 1) (pv 6) (fun _ _ => rfl)))) pa_nil)))))), ?_⟩
    refine ⟨by show 1 ≤ sizeLine; decide, fun D nD => ?_⟩
    have h0 : upd H D (.lst [.int 0]) D = some (.lst (nV (M14.metI R 0 0))) := upd_same
    have s0 := same_upd (o := .lst [.int 0]) nD
    generalize upd H D (.lst [.int 0]) = H0 at *
    refine ⟨_, rfl, va, xs, rfl, .inl (sq_same hS s0), _, rfl, by omega, by omega, ?_⟩
    rw [show ((xs.length : Int)).toNat = R.length by omega]
    refine for_it walk_range (fun i σ H' => ∃ t, σ = [some (.ref va), some (.ref kb), some (.ref D), t, none, none, none] ∧ H' D = some (.lst (nV (M14.metI R 0 i))) ∧ Same H H') ⟨none, rfl, h0, s0⟩ (fun _ _ _ _ _ => trivial) (fun i x' σ H3 H4 hi p y => ?_) (fun σ H3 p => ?_)
    · obtain ⟨p0, rfl, hD, sm⟩ := p
      obtain ⟨rfl, y⟩ := y
      replace y : x' = V.int (i : Int) := y.trans (congrArg V.int (Int.zero_add _))
      subst y
      have hlen := M14.metI_len hval hne i
      refine ⟨_, rfl, _, rfl, D, _, rfl, .inl (.inl (.inl hD)), _, _, rfl, rfl, _, rfl, ?_⟩
      rw [nV_len]
      by_cases hlt : i < (M14.metI R 0 i).length
      · refine ite_t (decide_eq_true (by omega)) ?_
        have hgt : (M14.metI R 0 i)[i]? = some (M14.metI R 0 i)[i] := List.getElem?_eq_getElem hlt
        generalize (M14.metI R 0 i)[i] = p at hgt
        have hp : p < R.length := M14.metI_lt hval hne i p (List.mem_of_getElem? hgt)
        obtain ⟨rb, hx, hSb⟩ := hrow p hp
        have hr3 : (M14.row R p).length ≤ 3 := hrl _ (M14.row_mem hp)
        have hstep := M14.metI_succ hgt
        generalize M14.metI R 0 i = f at *
        have hSx := sq_same hS sm
        have hSy := sq_same hSb sm
        refine ⟨_, rfl, .inl ⟨rfl, _, .inl (.inl hD)⟩, _, rfl, _, rfl, _, rfl, D, _, _, _, rfl, rfl, .inl (.inl hD), atI_nat (nV_get hgt), va, xs, _, _, rfl, rfl, hSx, atI_nat hx, .L rb, _, rfl, hSy, fun D2 nD2 => ?_⟩
        have nDD : D ≠ D2 := ne_of_none hD nD2
        refine lc_gen (walk_enumS (y := .L rb) (xs := nV (M14.row R p))) (Same H4) (fun j acc => acc = nV (fresh f (M14.row R p) j)) (sz (by rw [nV_len]; omega)) (fun j acc e => by rw [e, nV_len]; exact fresh_len _ _ _) rfl (same_upd nD2) (fun _ _ h => same_up h nD2) (fun _ h => sq_same hSy h) (fun j x H5 H6 acc C N hj rs hD2 ha yy cc nn => ?_) (fun H5 ys rs hD2 ha => ?_)
        · obtain ⟨Tp, v1, v2, rfl, nT, rfl, e1, e2⟩ := yy
          cases e1
          have e2 : (nV (M14.row R p))[j]? = some v2 := e2
          obtain ⟨g, hg, rfl⟩ := nV_inv e2
          have nTD : D2 ≠ Tp := ne_of_none hD2 nT
          have rs2 := same_up (o := .tup [.int (j : Nat), .int ((g : Nat) : Int)]) rs (rs.free nT)
          have hD3 : (upd H5 Tp (.tup [.int (j : Nat), .int ((g : Nat) : Int)])) D2 = some (.lst acc) := by rw [upd_ne nTD]; exact hD2
          have hTp := upd_same (H := H5) (a := Tp) (o := .tup [.int (j : Nat), .int ((g : Nat) : Int)])
          generalize upd H5 Tp (.tup [.int (j : Nat), .int ((g : Nat) : Int)]) = H7 at *
          have hfD : SqL K H7 D (nV f) := .inl (.inl (rs2 _ _ hD))
          refine ⟨Tp, _, rfl, .inl (.inl hTp), rfl, _, _, rfl, _, _, rfl, rfl, rfl, ?_⟩
          refine ⟨_, rfl, _, rfl, _, rfl, _, rfl, _, rfl, D, _, _, _, rfl, rfl, hfD, atI_nat (nV_get hgt), va, xs, _, _, rfl, rfl, sq_same hSx rs2, atI_nat hx, _, rfl, _, rfl, rb, _, rfl, sq_same hSy rs2, fun p5 n5 => ?_⟩
          rw [cutV_n, nV_take]
          have s5 := same_upd (o := .lst (nV ((M14.row R p).take j))) n5
          have h5 := upd_same (H := H7) (a := p5) (o := .lst (nV ((M14.row R p).take j)))
          generalize upd H7 p5 (.lst (nV ((M14.row R p).take j))) = H8 at *
          refine ⟨D, p5, _, _, rfl, rfl, s5 _ _ (rs2 _ _ hD), h5, by rw [nV_len, nV_len, List.length_take, sizeLine_eq]; omega, fun p6 n6 => ?_⟩
          rw [nV_app]
          have s6 := same_upd (o := .lst (nV (f ++ (M14.row R p).take j))) n6
          have h6 := upd_same (H := H8) (a := p6) (o := .lst (nV (f ++ (M14.row R p).take j)))
          generalize upd H8 p6 (.lst (nV (f ++ (M14.row R p).take j))) = H9 at *
          refine ⟨_, g, rfl, sq_list (.inl (.inl h6)), _, rfl, ?_⟩
          have s59 := rs2.trans (s5.trans s6)
          have hD9 := s6 _ _ (s5 _ _ hD3)
          have ef : fresh f (M14.row R p) (j + 1) = if g ∈ f ++ (M14.row R p).take j then fresh f (M14.row R p) j else fresh f (M14.row R p) j ++ [g] := by
            show (match (M14.row R p)[j]? with | some g => _ | none => _) = _
            rw [hg]
          by_cases hm : g ∈ f ++ (M14.row R p).take j
          · refine ite_f (by rw [decide_eq_true hm]; rfl) (nn _ s59 hD9 ?_)
            rw [ef, if_pos hm, ha]
          · refine ite_t (by rw [decide_eq_false hm]; rfl) ⟨_, rfl, cc _ _ s59 hD9 ?_⟩
            rw [ef, if_neg hm, ha, nV_snoc]
        · rw [nV_len] at ha
          subst ha
          have hfl := fresh_len f (M14.row R p) (M14.row R p).length
          refine ⟨D, D2, _, _, rfl, rfl, rs _ _ hD, hD2, by rw [nV_len, nV_len, sizeLine_eq]; omega, _, rfl, ?_, same_up (sm.trans rs) nD⟩
          rw [upd_same, nV_app, fresh_fold, List.take_length, hstep]
      · refine ite_f (decide_eq_false (by omega)) ⟨_, rfl, ?_, sm⟩
        have e : (M14.metI R 0 i)[i]? = none := List.getElem?_eq_none_iff.mpr (by omega)
        show H4 D = some (.lst (nV (match (M14.metI R 0 i)[i]? with | some p => _ | none => M14.metI R 0 i)))
        rw [e]
        exact hD
    · obtain ⟨p0, rfl, hD, sm⟩ := p
      have hD : H3 D = some (.lst (nV (M14.met R 0))) := hD
      have hmemlt : ∀ p ∈ M14.met R 0, p < R.length := fun p hp => M14.met_lt hval hne hp
      have hclosed : ∀ p ∈ M14.met R 0, ∀ g ∈ M14.row R p, g ∈ M14.met R 0 := fun p hp g hg => M14.met_closed hval hne hp hg
      have hml : (M14.met R 0).length ≤ 40 := Nat.le_trans (M14.met_len hval hne) hfew
      have ereR : metR R = (M14.met R 0).map fun p => (M14.row R p).map fun g => (M14.met R 0).idxOf g := rfl
      rw [ereR] at q
      generalize M14.met R 0 = od at *
      have hSx := sq_same hS sm
      have hrow3 : ∀ p, p < R.length → ∃ b, xs[p]? = some (.ref b) ∧ SqL K H3 b (nV (M14.row R p)) := fun p hp => by
        obtain ⟨b, h1, h2⟩ := hrow p hp
        exact ⟨b, h1, sq_same h2 sm⟩
      refine ⟨_, rfl, D, rfl, ⟨_, .inl (.inl hD)⟩, fun D4 nD4 => ?_⟩
      have ha3 := sm _ _ ha0
      have naD4 : a ≠ D4 := ne_of_none ha3 nD4
      refine lc_dataX (K := K) (walk_list (xs := nV od)) a (od.map fun p => .list (dN ((M14.row R p).map fun g => od.idxOf g))) (by rw [List.length_map, nV_len]) (sz (by rw [nV_len]; omega)) nD4 (fun H' s' => .inl (.inl (s' _ _ hD))) (fun i y Hh H' acc dd C hi s7 hD4 yy hd c => ?_) gName_mono (fun H8 xs8 s8 hD8 hA8 => ?_)
      · obtain ⟨rfl, hy⟩ := yy
        obtain ⟨p, hp, rfl⟩ := nV_inv hy
        rw [List.getElem?_map, hp] at hd
        cases hd
        have hpm2 := List.mem_of_getElem? hp
        obtain ⟨rb, hx, hSb⟩ := hrow3 p (hmemlt p hpm2)
        have hrl3 : (M14.row R p).length ≤ 3 := hrl _ (M14.row_mem (hmemlt p hpm2))
        refine ⟨rfl, ⟨_, rfl, _, rfl, va, xs, _, _, rfl, rfl, sq_same hSx s7, atI_nat hx, rb, rfl, ⟨_, sq_same hSb s7⟩, fun D5 nD5 => ?_⟩⟩
        refine lc_gen (walk_list (xs := nV (M14.row R p))) (Same H') (fun i acc => acc = nV (((M14.row R p).take i).map fun g => od.idxOf g)) (sz (by rw [nV_len]; omega)) (fun i acc e => by rw [e, nV_len, List.length_map, List.length_take]; omega) rfl (same_upd nD5) (fun _ _ h => same_up h nD5) (fun _ h => sq_same hSb (s7.trans h)) (fun i x H9 H10 acc2 C2 N hi2 r hD9 ha y c2 n2 => ?_) (fun H9 ys r hD9 ha => ?_)
        · obtain ⟨rfl, y⟩ := y
          obtain ⟨g, hg, rfl⟩ := nV_inv y
          have hO3 : SqL K H10 D (nV od) := .inl (.inl (r _ _ (s7 _ _ hD)))
          refine ⟨rfl, yes_te ⟨_, rfl, .inl ⟨rfl, _, hO3⟩, _, rfl, D, od, g, rfl, rfl, hO3, hclosed p hpm2 g (List.mem_of_getElem? hg), ?_⟩⟩
          refine c2 _ _ r hD9 ?_
          rw [ha, List.take_add_one, hg, List.map_append]
          exact (nV_snoc _ _).symm
        · subst ha
          rw [nV_len, List.take_length] at hD9
          refine c _ _ r (.lst (.inl (.inl ?_)) (dpAll_nV _))
          have naD5 : a ≠ D5 := ne_of_none (s7 _ _ ha3) nD5
          rw [del_ne naD5.symm, del_ne (fun e => by rw [e, hD4] at nD5; cases nD5)]
          exact hD9
      · have s38 : Same H3 H8 := s8
        refine ⟨_, rfl, D, rfl, ⟨_, .inl (.inl (s38 _ _ hD))⟩, fun D6 nD6 => ?_⟩
        have ha8 := s38 _ _ ha3
        have naD6 : a ≠ D6 := ne_of_none ha8 nD6
        have hkb8 := sq_same hb (sm.trans s38)
        refine lc_gen (walk_list (xs := nV od)) (Same H8) (fun i acc => acc = (od.take i).map fun p => bs.getD p .non) (sz (by rw [nV_len]; omega)) (fun i acc e => by rw [e, List.length_map, List.length_take]; omega) rfl (same_upd nD6) (fun _ _ h => same_up h nD6) (fun _ h => .inl (.inl (h _ _ (s38 _ _ hD)))) (fun i x H9 H10 acc2 C2 N hi2 r hD9 ha y c2 n2 => ?_) (fun H9 ys r hD9 ha => ?_)
        · obtain ⟨rfl, y⟩ := y
          obtain ⟨g, hg, rfl⟩ := nV_inv y
          have hgl := hmemlt g (List.mem_of_getElem? hg)
          refine ⟨rfl, yes_te ⟨_, rfl, _, rfl, kb, _, _, _, rfl, rfl, sq_same hkb8 r, atI_nat (get_D (by omega)), c2 _ _ r hD9 ?_⟩⟩
          rw [ha, List.take_add_one, hg, List.map_append]
          rfl
        · rw [nV_len, List.take_length] at ha
          subst ha
          refine ⟨by show 2 ≤ sizeLine; decide, fun t nt => ?_⟩
          have st := same_upd (o := .tup [.ref D4, .ref D6]) nt
          have s39 := sm.trans (s38.trans r)
          have nat : a ≠ t := ne_of_none (r _ _ ha8) nt
          refine q _ t D4 D6 (s39.trans st) (.inl (.inl upd_same)) nat ?_ naD6 (st _ _ hD9)
          refine .lst (.inl (.inl (by rw [del_ne naD4.symm]; exact st _ _ (r _ _ hD8)))) ?_
          rw [List.map_map]
          exact DpAll.same (del_mono a ((del_same _ _).trans (r.trans st))) hA8
end
end Lw
namespace Lw
open PySem PySem.Spec PyProof.Rows L3
open L2 hiding del del_same del_ne
/-- drawn rows -/
structure Drawn (n m : Nat) (R : List (List Nat)) : Prop where
  ne : 0 < R.length
  few : R.length ≤ m
  len : ∀ r ∈ R, r.length = n
  val : M14.Val R
/-- a comprehension of rows: what is there so far -/
def RowsP (K : PySem.W.Frag) (a : Addr) (n mm : Nat) (H1 : Hp) (i : Nat) (acc : List V) (H : Hp) : Prop := Pot H a ∧ Off a H1 H ∧ ∃ R : List (List Nat), R.length = i ∧ (∀ r ∈ R, r.length = n ∧ ∀ g ∈ r, g < mm) ∧ DpAll K (del H a) acc (R.map fun r => .list (dN r))
def RowP (a : Addr) (mm : Nat) (H1 : Hp) (j : Nat) (acc : List V) (H : Hp) : Prop := Pot H a ∧ Off a H1 H ∧ ∃ l : List Nat, acc = nV l ∧ l.length = j ∧ ∀ g ∈ l, g < mm
theorem RowsP.len {K : PySem.W.Frag} {a : Addr} {n mm : Nat} {H1 : Hp} {i : Nat} {acc : List V} {H : Hp} (p : RowsP K a n mm H1 i acc H) : acc.length ≤ i := by
  obtain ⟨_, _, R, e, _, h⟩ := p
  rw [dpAll_len h, List.length_map]; omega
theorem RowP.len {a : Addr} {mm : Nat} {H1 : Hp} {i : Nat} {acc : List V} {H : Hp} (p : RowP a mm H1 i acc H) : acc.length ≤ i := by
  obtain ⟨_, _, l, e, h, _⟩ := p
  rw [e, nV_len]; omega
theorem RowP.nil {a : Addr} {mm : Nat} {H : Hp} (h : Pot H a) : RowP a mm H 0 [] H := ⟨h, Off.refl _ _, [], rfl, rfl, fun g hg => nomatch hg⟩
theorem RowsP.nil {K : PySem.W.Frag} {a : Addr} {n mm : Nat} {H : Hp} (h : Pot H a) : RowsP K a n mm H 0 [] H := ⟨h, Off.refl _ _, [], rfl, (fun r hr => nomatch hr), .nil⟩
/-- one number more -/
theorem RowP.push {a D : Addr} {mm g j : Nat} {H1 H H4 : Hp} {acc : List V} (p : RowP a mm H1 j acc (del H D)) (hp : Pot H4 a) (ho : Off a H H4) (n : a ≠ D) (hg : g < mm) : RowP a mm H1 (j + 1) (acc ++ [.int (g : Int)]) (del H4 D) := by
  obtain ⟨h1, h2, l, e, h3, h4⟩ := p
  refine ⟨pot_out hp n, off_step h2 ho, l ++ [g], by rw [e, nV_snoc], by rw [List.length_append, h3]; rfl, fun z hz => ?_⟩
  rcases List.mem_append.mp hz with hz | hz
  · exact h4 z hz
  · rw [List.mem_singleton.mp hz]; exact hg
/-- one row more -/
theorem RowsP.push {K : PySem.W.Frag} {a D D2 : Addr} {n mm i : Nat} {H1 H Hz : Hp} {acc ys : List V} (p : RowsP K a n mm H1 i acc (del H D)) (hD : H D = some (.lst acc)) (z : RowP a mm H n ys (del Hz D2)) (nD : a ≠ D) (nD2 : a ≠ D2) (nDD : D ≠ D2) (hz : Hz D2 = some (.lst ys)) : RowsP K a n mm H1 (i + 1) (acc ++ [.ref D2]) (del Hz D) := by
  obtain ⟨hpp, hoo, R, eR, hRR, hAA⟩ := p
  obtain ⟨hpz, hoz, l, el, hll, hlt⟩ := z
  subst el
  have hoz2 := off_in hoz
  refine ⟨pot_out (pot_in hpz) nD, off_step hoo hoz2, R ++ [l], by rw [List.length_append, eR]; rfl, fun r hr => ?_, ?_⟩
  · rcases List.mem_append.mp hr with hr | hr
    · exact hRR r hr
    · rw [List.mem_singleton.mp hr]; exact ⟨hll, hlt⟩
  · rw [List.map_append]
    refine dpAll_app (DpAll.same (off_dd hoz2) hAA) (.cons (.lst (.inl (.inl ?_)) (dpAll_nV l)) .nil)
    rw [del_ne nD2.symm, del_ne nDD.symm]
    exact hz
/-- all rows -/
theorem RowsP.done {K : PySem.W.Frag} {a D : Addr} {n mm m : Nat} {H1 H2 : Hp} {xs : List V} (p : RowsP K a n mm H1 mm xs (del H2 D)) (hD : H2 D = some (.lst xs)) (nD : a ≠ D) (h0 : 0 < mm) (hm : mm ≤ m) : ∃ R, Drawn n m R ∧ R.length = mm ∧ Pot H2 a ∧ Off a H1 H2 ∧ Dp K (del H2 a) (.ref D) (dLR R) := by
  obtain ⟨hp2, ho2, R, eR, hRR, hAA⟩ := p
  refine ⟨R, ⟨by omega, by omega, fun r hr => (hRR r hr).1, fun p hp g hg => ?_⟩, eR, pot_in hp2, off_in ho2, .lst (.inl (.inl (by rw [del_ne nD.symm]; exact hD))) (DpAll.same (del_mono a (del_same H2 D)) hAA)⟩
  have := (hRR _ (M14.row_mem hp)).2 g hg
  omega
section
variable {P : Program} {w : World} {K : PySem.W.Frag} {mg : Str → Option Value} {base : Heap}
def spLines (K : PySem.W.Frag) : Sp := fun vs H Q _ => ∃ (a : Addr) (n m : Nat), vs = [.ref a, .int (n : Int), .int (m : Int)] ∧ Pot H a ∧ 0 < n ∧ n ≤ 3 ∧ 0 < m ∧ m ≤ 40 ∧ ∀ H' v R, Drawn n m R → Pot H' a → Off a H H' → Dp K (del H' a) v (dLR R) → Q v H'
theorem ok_law_lines (T : All K mg) : FnOk P w K mg base CX0 2 T.f_law_lines T.d_law_lines ["_law_pot_here", "_law_size", "_law_most"] (spLines K) := by
  refine T.law_lines.F.ok sc_law_lines (fun vs H Q E h => ?_) (fun cdv A outer s H vs Q E hr h => ?_)
  · obtain ⟨a, n, m, rfl, _⟩ := h
    rfl
  · obtain ⟨a, n, m, rfl, hp, hn, hn3, hm, hm40, q⟩ := h
    refine ⟨_, pss_cons (ps_asg (pe_tup (pa_cons (pe_op op_add pe_int (pe_call (ok_law_draw T) (hr.mono (by decide)) (by rfl) T.law_draw.g T.law_draw.F.kp T.law_draw.b .nil pass0 (pa_cons (pv 0) (pa_cons (pv 2) pa_nil)))) (pa_cons (pe_call (ok_law_draw T) (hr.mono (by decide)) (by rfl) T.law_draw.g T.law_draw.F.kp T.law_draw.b .nil pass0 (pa_cons (pv 0) (pa_cons pe_int pa_nil))) pa_nil))) (pg_tup rfl (pgs_cons (pg_name (i := 3) sc_law_lines.nd rfl (by first | exact Or.inl rfl | exact Or.inr rfl)) (pgs_cons (pg_name (i := 4) sc_law_lines.nd rfl (by first | exact Or.inl rfl | exact Or.inr rfl)) pgs_nil))))
      (pss_cons (ps_if (pt_cmpR op_eq (pv 4) pe_int (nomark _)) (pss_one (ps_ret (pe_lc (own := [("_law_place", 6)]) (g := gName 6) (tt := tYes) rfl sc_law_lines.nd (pi_range1 rfl T.b_range (pa_cons (pv 3) pa_nil))
          (blkOk_by (own := [("_law_place", 6)]) (N := ["_law_pot_here", "_law_size", "_law_most", "_law_many", "_law_way", "_law_letter", "_law_place", "_law_steps"]) (sc := defScope s_law_lines) (by decide +kernel))
          (fun _ _ _ _ _ => pg_name (i := 6) sc_law_lines.nd rfl (by first | exact Or.inl rfl | exact Or.inr rfl)) (fun _ _ _ _ _ => pts_nil)
          (fun _ _ _ _ _ => (pe_lc (own := [("_law_letter", 5)]) (g := gName 5) (tt := tYes) rfl sc_law_lines.nd (pi_range1 rfl T.b_range (pa_cons (pv 1) pa_nil))
          (blkOk_by (own := [("_law_letter", 5)]) (N := ["_law_pot_here", "_law_size", "_law_most", "_law_many", "_law_way", "_law_letter", "_law_place", "_law_steps"]) (by first | kernel_rfl | rfl))
          (fun _ _ _ _ _ => pg_name (i := 5) sc_law_lines.nd rfl (by first | exact Or.inl rfl | exact Or.inr rfl)) (fun _ _ _ _ _ => pts_nil)
          (fun _ _ _ _ _ => (pe_call (ok_law_draw T) (hr.mono (by decide)) (by rfl) T.law_draw.g T.law_draw.F.kp T.law_draw.b .nil pass0 (pa_cons (pv 0) (pa_cons (pv 3) pa_nil))))))))) pss_nil)
      (pss_cons (ps_if (pt_cmpR op_eq (pv 4) pe_int (nomark _)) (pss_one (ps_ret (pe_lc (own := [("_law_place", 6)]) (g := gName 6) (tt := tYes) rfl sc_law_lines.nd (pi_range1 rfl T.b_range (pa_cons (pv 3) pa_nil))
          (blkOk_by (own := [("_law_place", 6)]) (N := ["_law_pot_here", "_law_size", "_law_most", "_law_many", "_law_way", "_law_letter", "_law_place", "_law_steps"]) (sc := defScope s_law_lines) (by decide +kernel))
          (fun _ _ _ _ _ => pg_name (i := 6) sc_law_lines.nd rfl (by first | exact Or.inl rfl | exact Or.inr rfl)) (fun _ _ _ _ _ => pts_nil)
          (fun _ _ _ _ _ => (pe_lc (own := [("_law_letter", 5)]) (g := gName 5) (tt := tYes) rfl sc_law_lines.nd (pi_range1 rfl T.b_range (pa_cons (pv 1) pa_nil))
          (blkOk_by (own := [("_law_letter", 5)]) (N := ["_law_pot_here", "_law_size", "_law_most", "_law_many", "_law_way", "_law_letter", "_law_place", "_law_steps"]) (by first | kernel_rfl | rfl))
          (fun _ _ _ _ _ => pg_name (i := 5) sc_law_lines.nd rfl (by first | exact Or.inl rfl | exact Or.inr rfl)) (fun _ _ _ _ _ => pts_nil)
          (fun _ _ _ _ _ => (pe_op op_add (pv 6) (pe_call (ok_law_draw T) (hr.mono (by decide)) (by rfl) T.law_draw.g T.law_draw.F.kp T.law_draw.b .nil pass0 (pa_cons (pv 0) (pa_cons (pe_op op_sub (pv 3) (pv 6)) pa_nil)))))))))) pss_nil)
      (pss_cons (ps_set (i := 7) sc_law_lines.nd rfl (by first | exact Or.inl rfl | exact Or.inr rfl) (pe_op op_cat (pe_lc (own := [("_law_place", 6)]) (g := gName 6) (tt := tYes) rfl sc_law_lines.nd (pi_range1 rfl T.b_range (pa_cons (pe_op op_sub (pv 3) pe_int) pa_nil))
          (blkOk_by (own := [("_law_place", 6)]) (N := ["_law_pot_here", "_law_size", "_law_most", "_law_many", "_law_way", "_law_letter", "_law_place", "_law_steps"]) (sc := defScope s_law_lines) (by decide +kernel))
          (fun _ _ _ _ _ => pg_name (i := 6) sc_law_lines.nd rfl (by first | exact Or.inl rfl | exact Or.inr rfl)) (fun _ _ _ _ _ => pts_nil)
          (fun _ _ _ _ _ => (pe_call (ok_law_draw T) (hr.mono (by decide)) (by rfl) T.law_draw.g T.law_draw.F.kp T.law_draw.b .nil pass0 (pa_cons (pv 0) (pa_cons (pv 1) pa_nil))))) (pe_lst (pa_cons (pv 1) pa_nil))))
      (pss_one (ps_ret (pe_lc (own := [("_law_place", 6)]) (g := gName 6) (tt := tYes) rfl sc_law_lines.nd (pi_range1 rfl T.b_range (pa_cons (pv 3) pa_nil))
          (blkOk_by (own := [("_law_place", 6)]) (N := ["_law_pot_here", "_law_size", "_law_most", "_law_many", "_law_way", "_law_letter", "_law_place", "_law_steps"]) (sc := defScope s_law_lines) (by decide +kernel))
          (fun _ _ _ _ _ => pg_name (i := 6) sc_law_lines.nd rfl (by first | exact Or.inl rfl | exact Or.inr rfl)) (fun _ _ _ _ _ => pts_nil)
          (fun _ _ _ _ _ => (pe_lc (own := [("_law_letter", 5)]) (g := gName 5) (tt := tYes) rfl sc_law_lines.nd (pi_range1 rfl T.b_range (pa_cons (pv 1) pa_nil))
          (blkOk_by (own := [("_law_letter", 5)]) (N := ["_law_pot_here", "_law_size", "_law_most", "_law_many", "_law_way", "_law_letter", "_law_place", "_law_steps"]) (by first | kernel_rfl | rfl))
          (fun _ _ _ _ _ => pg_name (i := 5) sc_law_lines.nd rfl (by first | exact Or.inl rfl | exact Or.inr rfl)) (fun _ _ _ _ _ => pts_nil)
          (fun _ _ _ _ _ => (pe_op op_add (pv 6) (pe_callTy call_int1 (by rfl) T.b_int PyProof.Rows.boot_int (pa_cons (pe_cmpR op_eq (pv 5) (pe_ix (ix_listK (K := K) rfl) (pv 7) (pv 6) (fun _ _ => rfl)) (by rfl)) pa_nil)))))))))))), ?_⟩
    refine ⟨_, rfl, _, rfl, a, m, rfl, hp, hm, by omega, fun H1 d hd hp1 ho1 => ⟨_, _, rfl, rfl, _, rfl, a, 3, rfl, hp1, by decide, by decide, fun H2 wy hw hp2 ho2 => ⟨by show 2 ≤ sizeLine; decide, fun t nt => ?_⟩⟩⟩
    have em : (1 : Int) + (d : Int) = ((d + 1 : Nat) : Int) := by omega
    dsimp only
    rw [em]
    have hmm : d + 1 ≤ m := hd
    have hmm0 : 0 < d + 1 := Nat.succ_pos _
    generalize d + 1 = mm at hmm hmm0
    have sT := same_upd (o := .tup [.int (mm : Int), .int (wy : Int)]) nt
    have hT := upd_same (H := H2) (a := t) (o := .tup [.int (mm : Int), .int (wy : Int)])
    have hp3 := hp2.same sT
    have ho3 := (ho1.trans ho2).trans (Off.of (a := a) sT)
    generalize upd H2 t (.tup [.int (mm : Int), .int (wy : Int)]) = H3 at *
    refine ⟨t, _, rfl, .inl (.inl hT), rfl, _, _, rfl, _, _, rfl, rfl, ?_⟩
    refine ⟨_, rfl, rfl, _, rfl, ?_⟩
    obtain rfl | rfl | rfl : wy = 0 ∨ wy = 1 ∨ wy = 2 := by omega
    · refine ite_t rfl ?_
      refine ⟨_, rfl, _, rfl, by omega, by omega, fun D nD => ?_⟩
      rw [show ((mm : Int)).toNat = mm by omega]
      have naD : a ≠ D := hp3.ne nD
      refine lc_dp walk_range (RowsP K a n mm H3) (sz (by omega)) (fun i acc H' p => p.len) nD (RowsP.nil hp3) (fun _ _ _ _ _ => trivial) (fun i x Hh H' acc C N hi p hD y c nn => ?_) (fun H4 xs4 hD4 p => ?_)
      · obtain ⟨rfl, rfl⟩ := y
        have hpH := pot_in p.1
        refine ⟨rfl, yes_te ⟨_, rfl, _, rfl, by omega, by omega, fun D2 nD2 => ?_⟩⟩
        rw [show ((n : Int)).toNat = n by omega]
        have naD2 : a ≠ D2 := hpH.ne nD2
        have nDD2 : D ≠ D2 := ne_of_none hD nD2
        refine lc_dp walk_range (RowP a mm H') (sz (by omega)) (fun i acc H' p => p.len) nD2 (RowP.nil hpH) (fun _ _ _ _ _ => trivial) (fun j x2 Hk H'' acc2 C2 N2 hj p2 hD2 y2 c2 nn2 => ?_) (fun Hz ys hDz p2 => ?_)
        · obtain ⟨rfl, rfl⟩ := y2
          refine ⟨rfl, yes_te ⟨_, rfl, _, rfl, a, mm, rfl, pot_in p2.1, hmm0, by omega, fun H5 g hg hp5 ho5 => ?_⟩⟩
          exact c2 _ _ (ho5 _ _ hD2 naD2.symm) (p2.push hp5 ho5 naD2 hg)
        · exact c _ _ (off_in p2.2.1 _ _ hD naD.symm) (p.push hD p2 naD naD2 nDD2 hDz)
      · obtain ⟨R, hR, _, hp4, ho4, hdp⟩ := p.done hD4 naD hmm0 hmm
        exact q _ _ R hR hp4 (ho3.trans ho4) hdp
    · refine ite_f rfl ⟨_, rfl, rfl, _, rfl, ite_t rfl ?_⟩
      refine ⟨_, rfl, _, rfl, by omega, by omega, fun D nD => ?_⟩
      rw [show ((mm : Int)).toNat = mm by omega]
      have naD : a ≠ D := hp3.ne nD
      refine lc_dp walk_range (RowsP K a n mm H3) (sz (by omega)) (fun i acc H' p => p.len) nD (RowsP.nil hp3) (fun _ _ _ _ _ => trivial) (fun i x Hh H' acc C N hi p hD y c nn => ?_) (fun H4 xs4 hD4 p => ?_)
      · obtain ⟨rfl, y⟩ := y
        replace y : x = V.int (i : Int) := y.trans (congrArg V.int (Int.zero_add _))
        subst y
        have hpH := pot_in p.1
        refine ⟨rfl, yes_te ⟨_, rfl, _, rfl, by omega, by omega, fun D2 nD2 => ?_⟩⟩
        rw [show ((n : Int)).toNat = n by omega]
        have naD2 : a ≠ D2 := hpH.ne nD2
        have nDD2 : D ≠ D2 := ne_of_none hD nD2
        refine lc_dp walk_range (RowP a mm H') (sz (by omega)) (fun i acc H' p => p.len) nD2 (RowP.nil hpH) (fun _ _ _ _ _ => trivial) (fun j x2 Hk H'' acc2 C2 N2 hj p2 hD2 y2 c2 nn2 => ?_) (fun Hz ys hDz p2 => ?_)
        · obtain ⟨rfl, rfl⟩ := y2
          refine ⟨rfl, yes_te ⟨_, rfl, _, rfl, _, rfl, _, rfl, _, _, rfl, rfl, a, mm - i, by show [V.ref a, V.int ((mm : Int) - (i : Int))] = _; rw [show (mm : Int) - (i : Int) = ((mm - i : Nat) : Int) by omega], pot_in p2.1, by omega, by omega, fun H5 g hg hp5 ho5 => ⟨_, _, rfl, rfl, ?_⟩⟩⟩
          dsimp only
          rw [show (i : Int) + (g : Int) = ((i + g : Nat) : Int) by omega]
          exact c2 _ _ (ho5 _ _ hD2 naD2.symm) (p2.push hp5 ho5 naD2 (by omega))
        · exact c _ _ (off_in p2.2.1 _ _ hD naD.symm) (p.push hD p2 naD naD2 nDD2 hDz)
      · obtain ⟨R, hR, _, hp4, ho4, hdp⟩ := p.done hD4 naD hmm0 hmm
        exact q _ _ R hR hp4 (ho3.trans ho4) hdp
    · refine ite_f rfl ⟨_, rfl, rfl, _, rfl, ite_f rfl ?_⟩
      refine ⟨_, rfl, _, _, rfl, rfl, _, rfl, by omega, by omega, fun D nD => ?_⟩
      rw [show ((mm : Int) - 1).toNat = mm - 1 by omega]
      have naD : a ≠ D := hp3.ne nD
      refine lc_dp walk_range (RowP a n H3) (sz (by omega)) (fun i acc H' p => p.len) nD (RowP.nil hp3) (fun _ _ _ _ _ => trivial) (fun j x2 Hk H'' acc2 C2 N2 hj p2 hD2 y2 c2 nn2 => ?_) (fun Hz ys hDz p2 => ?_)
      · obtain ⟨rfl, rfl⟩ := y2
        refine ⟨rfl, yes_te ⟨_, rfl, _, rfl, a, n, rfl, pot_in p2.1, hn, by omega, fun H5 g hg hp5 ho5 => ?_⟩⟩
        exact c2 _ _ (ho5 _ _ hD2 naD.symm) (p2.push hp5 ho5 naD hg)
      obtain ⟨hpz, hoz, st, rfl, hstl, hst⟩ := p2
      refine ⟨_, rfl, by show 1 ≤ sizeLine; decide, fun p5 n5 => ?_⟩
      have hpz := pot_in hpz
      have hoz := off_in hoz
      have nap5 : a ≠ p5 := hpz.ne n5
      have s5 := same_upd (o := .lst [.int (n : Int)]) n5
      have h5 := upd_same (H := Hz) (a := p5) (o := .lst [.int (n : Int)])
      have hp5 := hpz.same s5
      generalize upd Hz p5 (.lst [.int (n : Int)]) = H5 at *
      refine ⟨D, p5, _, _, rfl, rfl, s5 _ _ hDz, h5, by rw [nV_len, sizeLine_eq]; show st.length + 1 ≤ _; omega, fun S nS => ?_⟩
      have naS : a ≠ S := hp5.ne nS
      have eS : nV st ++ [.int (n : Int)] = nV (st ++ [n]) := (nV_snoc _ _).symm
      rw [eS]
      have s6 := same_upd (o := .lst (nV (st ++ [n]))) nS
      have h6 := upd_same (H := H5) (a := S) (o := .lst (nV (st ++ [n])))
      have hp6 := hp5.same s6
      generalize upd H5 S (.lst (nV (st ++ [n]))) = H6 at *
      have ho6 := ho3.trans (hoz.trans (Off.of (a := a) (s5.trans s6)))
      refine ⟨_, rfl, _, rfl, by omega, by omega, fun D nD => ?_⟩
      rw [show ((mm : Int)).toNat = mm by omega]
      have naD : a ≠ D := hp6.ne nD
      refine lc_dp walk_range (RowsP K a n mm H6) (sz (by omega)) (fun i acc H' p => p.len) nD (RowsP.nil hp6) (fun _ _ _ _ _ => trivial) (fun i x Hh H' acc C N hi p hD y c nn => ?_) (fun H4 xs4 hD4 p => ?_)
      · obtain ⟨rfl, y⟩ := y
        replace y : x = V.int (i : Int) := y.trans (congrArg V.int (Int.zero_add _))
        subst y
        have hpH := pot_in p.1
        have hSH := off_in p.2.1 _ _ h6 naS.symm
        refine ⟨rfl, yes_te ⟨_, rfl, _, rfl, by omega, by omega, fun D2 nD2 => ?_⟩⟩
        rw [show ((n : Int)).toNat = n by omega]
        have naD2 : a ≠ D2 := hpH.ne nD2
        have nDD2 : D ≠ D2 := ne_of_none hD nD2
        refine lc_dp walk_range (RowP a mm H') (sz (by omega)) (fun i acc H' p => p.len) nD2 (RowP.nil hpH) (fun _ _ _ _ _ => trivial) (fun j x2 Hk H'' acc2 C2 N2 hj p2 hD2 y2 c2 nn2 => ?_) (fun Hz ys hDz p2 => ?_)
        · obtain ⟨rfl, y2⟩ := y2
          replace y2 : x2 = V.int (j : Int) := y2.trans (congrArg V.int (Int.zero_add _))
          subst y2
          have hlt : i < (st ++ [n]).length := by rw [List.length_append, List.length_singleton]; omega
          have hgs : (st ++ [n])[i]? = some (st ++ [n])[i] := List.getElem?_eq_getElem hlt
          have hbd : (j = (st ++ [n])[i]) → i + 1 < mm := fun e => by
            by_cases hi2 : i < st.length
            · omega
            · have e2 : (st ++ [n])[i]? = some n := by rw [List.getElem?_append_right (by omega), show i - st.length = 0 by omega]; rfl
              have e3 : (st ++ [n])[i] = n := Option.some.inj (hgs.symm.trans e2)
              omega
          generalize (st ++ [n])[i] = g at hgs hbd
          refine ⟨rfl, yes_te ⟨_, rfl, _, rfl, _, rfl, _, rfl, S, _, _, _, rfl, rfl, .inl (.inl (off_in p2.2.1 _ _ hSH naS.symm)), atI_nat (nV_get hgs), rfl, .inr ⟨_, rfl, _, _, rfl, rfl, ?_⟩⟩⟩
          have hd : (decide (V.int (j : Int) = V.int (g : Int))) = decide (j = g) := by
            by_cases h : j = g
            · subst h; simp
            · rw [decide_eq_false h]; exact decide_eq_false fun z => h (by have := V.int.inj z; omega)
          dsimp only
          rw [hd]
          by_cases h : j = g
          · rw [decide_eq_true h, if_pos rfl, show (i : Int) + 1 = ((i + 1 : Nat) : Int) by omega]
            exact c2 _ _ hD2 (p2.push (pot_in p2.1) (Off.refl _ _) naD2 (hbd h))
          · rw [decide_eq_false h, if_neg (by decide), Int.add_zero]
            exact c2 _ _ hD2 (p2.push (pot_in p2.1) (Off.refl _ _) naD2 (by omega))
        · exact c _ _ (off_in p2.2.1 _ _ hD naD.symm) (p.push hD p2 naD naD2 nDD2 hDz)
      · obtain ⟨R, hR, _, hp4, ho4, hdp⟩ := p.done hD4 naD hmm0 hmm
        exact q _ _ R hR hp4 (ho6.trans ho4) hdp
end
end Lw
namespace Lw
open PySem PySem.Spec PyProof.Rows L3
open L2 hiding del del_same del_ne
section
variable {P : Program} {w : World} {K : PySem.W.Frag} {mg : Str → Option Value} {base : Heap}
def spRows2 (K : PySem.W.Frag) (C : Addr) : Sp := fun vs H Q _ => ∃ a sg R k, vs = [.ref a] ∧ Mach C K H a sg R k ∧ ∀ H' p, Same H H' → H p = none → NewRows2 H H' p R → Q (.ref p) H'
theorem ok_Machine_rows2 (T : All K mg) : FnOk P w K mg base CX0 1 T.f_Machine_rows T.d_Machine_rows ["self"] (spRows2 K T.C_Machine) := by
  refine T.Machine_rows.F.ok sc_Machine_rows (fun vs H Q E h => ?_) (fun cdv A outer s H vs Q E hr h => ?_)
  · obtain ⟨a, sg, R, k, rfl, _⟩ := h
    rfl
  · obtain ⟨a, sg, R, k, rfl, hM, q⟩ := h
    obtain ⟨dx, r, qq, hat, hr1, hk1⟩ := hM.at_
    have hfew := hM.good.few
    obtain ⟨xs, hS, hl, hrow⟩ := rw_dTR hr1
    obtain ⟨_, _, e', hST, _⟩ := dp_tuple hr1
    cases e'
    obtain ⟨ra, ys, e2, hST, hAll⟩ := dp_tuple hr1
    cases e2
    have hyl : ys.length = R.length := by rw [dpAll_len hAll, List.length_map]
    refine ⟨_, pss_one (ps_ret (pe_lc (own := [("row", 1)]) (g := gName 1) (tt := tYes) rfl sc_Machine_rows.nd (pi_tup (pe_fld (pv 0) rfl))
          (blkOk_by (own := [("row", 1)]) (N := ["self", "row"]) (sc := defScope s_Machine_rows) (by decide +kernel))
          (fun _ _ _ _ _ => pg_name (i := 1) sc_Machine_rows.nd rfl (by first | exact Or.inl rfl | exact Or.inr rfl)) (fun _ _ _ _ _ => pts_nil)
          (fun _ _ _ _ _ => (pe_callTy (call_list_ofK (K := K) rfl) (by rfl) T.b_list PyProof.Rows.boot_list (pa_cons (pv 1) pa_nil))))), ?_⟩
    refine ⟨_, rfl, a, T.C_Machine, dx, _, _, rfl, hat, T.cl_Machine, T.n_Machine_own_rows, rfl, r, rfl, ⟨_, hST⟩, fun D nD => ?_⟩
    refine lc_dp (walk_tup (xs := ys)) (fun i acc H' => Same H H' ∧ acc.length = i ∧ acc.Nodup ∧ ∀ (j : Nat) (x : V), acc[j]? = some x → ∃ q, x = .ref q ∧ H q = none ∧ q ≠ D ∧ H' q = some (.lst (nV (M14.row R j)))) (sz (by omega)) (fun i acc H' p => Nat.le_of_eq p.2.1) nD ⟨Same.refl _, rfl, List.nodup_nil, fun j x e => by simp at e⟩ (fun i acc H' p _ => sqT_same hST (p.1.trans (del_same _ _))) (fun i y Hh H' acc C N hi p hD yy c n => ?_) (fun H5 xs' hD5 p => ?_)
    · obtain ⟨rfl, hy⟩ := yy
      obtain ⟨sm, hlen, hnod, hacc⟩ := p
      obtain ⟨d, hd, hdp⟩ := dpAll_back hAll hy
      rw [List.getElem?_map] at hd
      obtain ⟨rr, hr2, rfl⟩ := Option.map_eq_some_iff.mp hd
      obtain ⟨pa, zs, rfl, hS2, hA2⟩ := dp_tuple hdp
      rw [dpAll_nats hA2] at hS2
      have sH := sm.trans (del_same _ _)
      refine ⟨rfl, yes_te ⟨_, rfl, pa, nV rr, rfl, .inr (sqT_same hS2 sH), fun l nl => ?_⟩⟩
      have nlD : l ≠ D := fun e => by rw [e, hD] at nl; cases nl
      refine c _ _ (by rw [upd_ne nlD.symm]; exact hD) ⟨same_del (same_up sH (sH.free nl)) nD, by rw [List.length_append, hlen]; rfl, ?_, fun j x e => ?_⟩
      · rw [List.nodup_append]
        refine ⟨hnod, by simp, fun x hx y hy z => ?_⟩
        rw [List.mem_singleton] at hy
        subst hy
        subst z
        obtain ⟨jj, hjj⟩ := List.mem_iff_getElem?.mp hx
        obtain ⟨q1, e1, n1, n2, e2⟩ := hacc jj _ hjj
        cases e1
        rw [del_ne n2] at e2
        rw [e2] at nl
        cases nl
      by_cases hj : j < acc.length
      · rw [List.getElem?_append_left hj] at e
        obtain ⟨q1, e1, n1, n2, e2⟩ := hacc j x e
        refine ⟨q1, e1, n1, n2, ?_⟩
        rw [del_ne n2] at e2
        rw [del_ne n2, upd_ne (ne_of_none e2 nl)]
        exact e2
      · have hj2 : j = i := by
          have := (List.getElem?_eq_some_iff.mp e).1
          rw [List.length_append, List.length_singleton] at this
          omega
        subst hj2
        rw [List.getElem?_append_right (by omega), hlen, Nat.sub_self] at e
        cases e
        exact ⟨l, rfl, sH.free nl, nlD, by rw [del_ne nlD, upd_same, M14.row_get hr2]⟩
    · obtain ⟨sm, hlen, hnod, hacc⟩ := p
      refine q _ D (sm.trans (del_same _ _)) nD ⟨xs', hD5, by rw [hlen, hyl], hnod, fun i x e => ?_⟩
      obtain ⟨q1, e1, n1, n2, e2⟩ := hacc i x e
      exact ⟨q1, e1, n1, n2, del_same _ _ _ _ e2⟩
def spFlip (K : PySem.W.Frag) (C : Addr) : Sp := fun vs H Q _ => ∃ (a : Addr) (p : Nat) (sg : List Nat) (R : List (List Nat)) (k : List Bool), vs = [.ref a, .int (p : Int)] ∧ Mach C K H a sg R k ∧ NewM K C H Q sg R (M74.tk k [p])
theorem ok_law_flipped (T : All K mg) : FnOk P w K mg base CX0 6 T.f_law_flipped T.d_law_flipped ["_law_thing", "_law_place"] (spFlip K T.C_Machine) := by
  refine T.law_flipped.F.ok sc_law_flipped (fun vs H Q E h => ?_) (fun cdv A outer s H vs Q E hr h => ?_)
  · obtain ⟨a, p, sg, R, k, rfl, _⟩ := h
    rfl
  · obtain ⟨a, p, sg, R, k, rfl, hM, q⟩ := h
    obtain ⟨dx, r, qq, hat, hr1, hk1⟩ := id hM.at_
    have hGd := hM.good
    have hkin := hGd.kin
    have hfew := hGd.few
    refine ⟨_, pss_one (ps_ret (pe_make ⟨T.mk_Machine, T.Machine_init.m.at_, T.Machine_init.m.fn, T.kp_Machine⟩ (ok_Machine_init T) (hr.mono (by decide)) (by rfl) T.g_Machine T.Machine_init.b .nil pass0 (pa_cons (pe_prop (pv 0) T.cl_Machine T.Machine_letters.p (ok_Machine_letters T) (hr.mono (by decide)) T.Machine_letters.b .nil pass0 rfl) (pa_cons (pe_meth0 (pv 0) T.cl_Machine T.Machine_rows.m (ok_Machine_rows2 T) (hr.mono (by decide)) T.Machine_rows.b .nil pass0) (pa_cons (pe_lc (own := [("_law_at", 2), ("_law_kind", 3)]) (tt := tYes) rfl sc_law_flipped.nd (pi_enumS rfl T.b_enumerate (pa_cons (pe_meth0 (pv 0) T.cl_Machine T.Machine_kinds.m (ok_Machine_kinds T) (hr.mono (by decide)) T.Machine_kinds.b .nil pass0) pa_nil))
          (blkOk_by (own := [("_law_at", 2), ("_law_kind", 3)]) (N := ["_law_thing", "_law_place", "_law_at", "_law_kind"]) (sc := defScope s_law_flipped) (by decide +kernel))
          (fun _ _ _ _ _ => (pg_tupK (K := K) (n := 2) rfl rfl (pgs_cons (pg_name (i := 2) sc_law_flipped.nd rfl (Or.inl rfl)) (pgs_cons (pg_name (i := 3) sc_law_flipped.nd rfl (Or.inl rfl)) pgs_nil)) rfl)) (fun _ _ _ _ _ => pts_nil)
          (fun _ _ _ _ _ => (pe_cmpR op_ne (pv 3) (pe_cmpR op_eq (pv 2) (pv 1) (by rfl)) (by rfl)))) pa_nil))))), ?_⟩
    refine ⟨_, rfl, a, dx, _, rfl, hat, a, sg, R, k, rfl, hM, ?_⟩
    refine ⟨_, rfl, a, dx, _, rfl, hat, rfl, a, sg, R, k, rfl, hM, fun H1 p1 s1 n1 hN => ?_⟩
    refine ⟨_, rfl, a, dx, _, rfl, s1 _ _ hat, rfl, a, sg, R, k, rfl, hM.same s1, fun kl nl => ?_⟩
    have s2 := same_upd (o := .lst (k.map V.bl)) nl
    have hkl := upd_same (H := H1) (a := kl) (o := .lst (k.map V.bl))
    generalize upd H1 kl (.lst (k.map V.bl)) = H2 at *
    refine ⟨.L kl, _, rfl, .inl (.inl hkl), fun D nD => ?_⟩
    refine lc_gen (walk_enumS (y := .L kl) (xs := k.map V.bl)) (Same H2) (fun i acc => acc = ((List.range i).map fun j => M14.kAt k j != decide (j ∈ [p])).map V.bl) (sz (by rw [List.length_map]; omega)) (fun i acc e => by rw [e, List.length_map, List.length_map, List.length_range]; exact Nat.le_refl _) rfl (same_upd nD) (fun _ _ h => same_up h nD) (fun _ h => .inl (.inl (h _ _ hkl))) (fun i x H5 H6 acc C N hi rs hD ha y c n => ?_) (fun H5 xs rs hD ha => ?_)
    · obtain ⟨Tp, v1, v2, rfl, nT, rfl, e1, e2⟩ := y
      cases e1
      have e2 : (k.map V.bl)[i]? = some v2 := e2
      rw [List.length_map] at hi
      rw [kAt_get hi] at e2
      cases e2
      have nTD : D ≠ Tp := ne_of_none hD nT
      have rs2 := same_up (o := .tup [.int (i : Nat), .bl (M14.kAt k i)]) rs (rs.free nT)
      have hD2 : (upd H5 Tp (.tup [.int (i : Nat), .bl (M14.kAt k i)])) D = some (.lst acc) := by rw [upd_ne nTD]; exact hD
      refine ⟨Tp, _, rfl, .inl (.inl upd_same), rfl, _, _, rfl, _, _, rfl, rfl, rfl, yes_te ⟨_, rfl, _, rfl, _, rfl, rfl, rfl, c _ _ rs2 hD2 ?_⟩⟩
      rw [ha, List.range_succ, List.map_append, List.map_append]
      refine congrArg (_ ++ ·) ?_
      show [V.bl (!decide (V.bl (M14.kAt k i) = V.bl (decide (V.int (i : Int) = V.int (p : Int)))))] = [V.bl (M14.kAt k i != decide (i ∈ [p]))]
      have e : decide (V.int (i : Int) = V.int (p : Int)) = decide (i ∈ [p]) := by
        by_cases h : i = p
        · subst h; simp
        · rw [decide_eq_false (fun z => h (by have := V.int.inj z; omega)), decide_eq_false (by simpa using h)]
      rw [e]
      cases M14.kAt k i <;> cases decide (i ∈ [p]) <;> rfl
    subst ha
    rw [List.length_map] at hD
    have s15 := s2.trans rs
    intro m1 dx_m1 n_m1 nd_m1 _
    refine make_ok (k := M74.tk k [p]) hM.lets (rw_dLR (Dp.same s15 (hN.one.dp (K := K)))) (sq_list (.inl (.inl hD))) (M74.tk_good hGd [p]) n_m1 nd_m1 (fun H7 s7 hM1 => ?_)
    have s17 := s1.trans s15
    exact q _ _ (s17.trans s7) (s17.free n_m1) hM1
theorem dLR_del {H : Hp} {a C dx : Addr} {fs : List (Str × V)} (ha : H a = some (.ins C dx fs)) {v : V} {R : List (List Nat)} (h : Dp K H v (dLR R)) : Dp K (del H a) v (dLR R) := by
  have key : ∀ {b : Addr} {xs : List V}, SqL K H b xs → SqL K (del H a) b xs := fun {b xs} h => by
    have nb : ∀ {o}, H b = some o → (∀ C dx fs, o ≠ .ins C dx fs) → del H a b = some o := fun {o} e n => by
      rw [del_ne (fun z => by rw [z, ha] at e; exact n _ _ _ (Option.some.inj e).symm)]
      exact e
    rcases h with (h | ⟨o, h⟩) | h
    · exact .inl (.inl (nb h (fun _ _ _ z => by cases z)))
    · exact .inl (.inr ⟨o, nb h (fun _ _ _ z => by cases z)⟩)
    · exact .inr h
  obtain ⟨va, xs, rfl, hS, hl, hrow⟩ := dLR_row h
  refine .lst (key hS) (dpAll_of (by rw [List.length_map]; exact hl) fun i x d h1 h2 => ?_)
  rw [List.getElem?_map] at h2
  obtain ⟨r, h3, rfl⟩ := Option.map_eq_some_iff.mp h2
  have hi := (List.getElem?_eq_some_iff.mp h3).1
  obtain ⟨b, e, hb⟩ := hrow i hi
  rw [h1] at e
  cases e
  rw [M14.row_get h3] at hb
  exact .lst (key hb) (dpAll_nV r)
def spLed2 (K : PySem.W.Frag) (C : Addr) : Sp := fun vs H Q _ => ∃ (a : Addr) (p i g : Nat) (sg : List Nat) (R : List (List Nat)) (k : List Bool), vs = [.ref a, .int (p : Int), .int (i : Int), .int (g : Int)] ∧ Mach C K H a sg R k ∧ p < R.length ∧ i < sg.length ∧ g < R.length ∧
  (M14.Good sg.length (M74.rd R p i g) k → NewM K C H Q sg (M74.rd R p i g) k) ∧ (¬ M14.Good sg.length (M74.rd R p i g) k → ∀ H', Same H H' → Q .non H')
theorem ok_law_led (T : All K mg) : FnOk P w K mg base CX0 6 T.f_law_led T.d_law_led ["_law_thing", "_law_place", "_law_letter", "_law_goal"] (spLed2 K T.C_Machine) := by
  refine T.law_led.F.ok sc_law_led (fun vs H Q E h => ?_) (fun cdv A outer s H vs Q E hr h => ?_)
  · obtain ⟨a, p, i, g, sg, R, k, rfl, _⟩ := h
    rfl
  · obtain ⟨a, p, i, g, sg, R, k, rfl, hM, hp, hi, hg, q, q2⟩ := h
    obtain ⟨dx, r, qq, hat, hr1, hk1⟩ := id hM.at_
    have hGd := hM.good
    have hkin := hGd.kin
    have hfew := hGd.few
    refine ⟨_, pss_cons (ps_set (i := 4) sc_law_led.nd rfl (by first | exact Or.inl rfl | exact Or.inr rfl) (pe_meth0 (pv 0) T.cl_Machine T.Machine_rows.m (ok_Machine_rows2 T) (hr.mono (by decide)) T.Machine_rows.b .nil pass0))
      (pss_cons (ps_asg (pv 3) (pg_sub (pe_ix ix_list (pv 4) (pv 1) (fun _ _ => rfl)) (pv 2) set_list))
      (pss_cons (ps_if (pt_cmpR op_lt (pe_callB call_len_seq (by rfl) T.b_len PySem.boot_len (pa_cons (pe_ix ix_tup (pe_call (ok_law_met T) (hr.mono (by decide)) (by rfl) T.law_met.g T.law_met.F.kp T.law_met.b .nil pass0 (pa_cons (pv 4) (pa_cons (pv 4) pa_nil))) pe_int (fun _ _ => rfl)) pa_nil)) (pe_callB call_len_seq (by rfl) T.b_len PySem.boot_len (pa_cons (pv 4) pa_nil)) (nomark _)) (pss_one (ps_ret pe_non)) pss_nil)
      (pss_one (ps_ret (pe_make ⟨T.mk_Machine, T.Machine_init.m.at_, T.Machine_init.m.fn, T.kp_Machine⟩ (ok_Machine_init T) (hr.mono (by decide)) (by rfl) T.g_Machine T.Machine_init.b .nil pass0 (pa_cons (pe_prop (pv 0) T.cl_Machine T.Machine_letters.p (ok_Machine_letters T) (hr.mono (by decide)) T.Machine_letters.b .nil pass0 rfl) (pa_cons (pv 4) (pa_cons (pe_meth0 (pv 0) T.cl_Machine T.Machine_kinds.m (ok_Machine_kinds T) (hr.mono (by decide)) T.Machine_kinds.b .nil pass0) pa_nil)))))))), ?_⟩
    refine ⟨_, rfl, a, dx, _, rfl, hat, rfl, a, sg, R, k, rfl, hM, fun H1 D s1 nD hN => ?_⟩
    obtain ⟨xs, q0, hDx, hx0, hq0, nq, nqD, hput⟩ := hN.put hp
    have nq0 := nq
    have hrl : (M14.row R p).length = sg.length := hGd.len _ (M14.row_mem hp)
    have hixn : ixN (nV (M14.row R p)).length ((i : Nat) : Int) = some i := by
      unfold ixN
      rw [if_pos (by omega), nV_len, hrl, if_pos (by omega)]
      rfl
    refine ⟨_, rfl, _, rfl, _, rfl, D, xs, ((p : Nat) : Int), .ref q0, rfl, rfl, .inl (.inl hDx), atI_nat hx0, ?_⟩
    refine ⟨_, rfl, q0, _, _, _, rfl, rfl, hq0, hixn, ?_⟩
    rw [nV_set]
    have hN2 := hput i g
    have s03 : Same H (upd H1 q0 (.lst (nV ((M14.row R p).set i g)))) := same_up s1 nq0
    generalize upd H1 q0 (.lst (nV ((M14.row R p).set i g))) = H3 at *
    have hSh := M74.rd_sht (a := i) hGd.toSht hp hg
    have hlen2 : (M74.rd R p i g).length = R.length := M74.rd_len _ _ _ _
    generalize hR2 : M74.rd R p i g = R2 at *
    have hdp := hN2.one.dp (K := K)
    obtain ⟨va, ys, eva, hSD, hyl, hrow2⟩ := dLR_row hdp
    cases eva
    have ha3 := s03 _ _ hat
    refine ⟨_, rfl, _, rfl, a, _, .ref D, D, R2, ys, rfl, ha3, dLR_del ha3 hdp, hSD, hSh.val, hSh.ne, by omega, (fun r hr => by rw [hSh.len r hr]; exact hM.lets.few), hyl, fun H4 t qa qb s4 ht nat hda naq hqb => ?_⟩
    obtain ⟨va2, zs, eva2, hSz, hzl, _⟩ := dLR_row (Dp.same (del_same H4 a) hda)
    cases eva2
    have s04 := s03.trans s4
    refine ⟨t, _, _, _, rfl, rfl, ht, rfl, qa, zs, rfl, .inl hSz, _, rfl, D, ys, rfl, .inl (sq_same hSD s4), _, _, rfl, rfl, _, rfl, ?_⟩
    rw [hzl, hyl]
    have hml : (metR R2).length = (M14.met R2 0).length := by show ((M14.met R2 0).map _).length = _; rw [List.length_map]
    rw [hml]
    by_cases hG : M14.Good sg.length R2 k
    · refine ite_f (decide_eq_false (by rw [(M74.good_iff hSh).mp hG]; omega)) ?_
      refine ⟨_, rfl, a, dx, _, rfl, s04 _ _ hat, a, sg, R, k, rfl, hM.same s04, _, rfl, ?_⟩
      refine ⟨_, rfl, a, dx, _, rfl, s04 _ _ hat, rfl, a, sg, R, k, rfl, hM.same s04, fun kl nl => ?_⟩
      have s5 := same_upd (o := .lst (k.map V.bl)) nl
      intro x dx' nx ndx _
      refine make_ok (k := k) hM.lets (rw_dLR (Dp.same (s4.trans s5) hdp)) (sq_list (.inl (.inl upd_same))) hG nx ndx fun H6 s6 hM2 => ?_
      have s05 := s04.trans s5
      exact q hG _ _ (s05.trans s6) (s05.free nx) hM2
    · refine ite_t (decide_eq_true ?_) (q2 hG _ s04)
      have h1 : (M14.met R2 0).length ≤ R2.length := M14.met_len hSh.val hSh.ne
      have h2 : (M14.met R2 0).length ≠ R2.length := fun e => hG ((M74.good_iff hSh).mpr e)
      omega
def spMk (K : PySem.W.Frag) (C : Addr) : Sp := fun vs H Q _ => ∃ (a : Addr) (sg : List Nat) (m : Nat), vs = [.ref a, tx sg, .int (m : Int)] ∧ Pot H a ∧ Lets sg ∧ 0 < m ∧ m ≤ 40 ∧ ∀ H' x R k, R.length ≤ m → Pot H' a → Off a H H' → H x = none → Mach C K H' x sg R k → Q (.ref x) H'
theorem ok_law_machine (T : All K mg) : FnOk P w K mg base CX0 6 T.f_law_machine T.d_law_machine ["_law_pot_here", "_law_signs", "_law_most"] (spMk K T.C_Machine) := by
  refine T.law_machine.F.ok sc_law_machine (fun vs H Q E h => ?_) (fun cdv A outer s H vs Q E hr h => ?_)
  · obtain ⟨a, sg, m, rfl, _⟩ := h
    rfl
  · obtain ⟨a, sg, m, rfl, hp, hl, hm0, hm, q⟩ := h
    have hn3 := hl.few
    have hn0 := hl.ne
    refine ⟨_, pss_cons (ps_set (i := 3) sc_law_machine.nd rfl (by first | exact Or.inl rfl | exact Or.inr rfl) (pe_call (ok_law_lines T) (hr.mono (by decide)) (by rfl) T.law_lines.g T.law_lines.F.kp T.law_lines.b .nil pass0 (pa_cons (pv 0) (pa_cons (pe_callB call_lenT (by rfl) T.b_len PySem.boot_len (pa_cons (pv 1) pa_nil)) (pa_cons (pv 2) pa_nil)))))
      (pss_cons (ps_set (i := 4) sc_law_machine.nd rfl (by first | exact Or.inl rfl | exact Or.inr rfl) (pe_call (ok_law_met T) (hr.mono (by decide)) (by rfl) T.law_met.g T.law_met.F.kp T.law_met.b .nil pass0 (pa_cons (pv 3) (pa_cons (pe_lc (own := [("_law_line", 5)]) (g := gName 5) (tt := tYes) rfl sc_law_machine.nd (pi_list (pv 3))
          (blkOk_by (own := [("_law_line", 5)]) (N := ["_law_pot_here", "_law_signs", "_law_most", "_law_lines_here", "_law_met_here", "_law_line"]) (sc := defScope s_law_machine) (by decide +kernel))
          (fun _ _ _ _ _ => pg_name (i := 5) sc_law_machine.nd rfl (by first | exact Or.inl rfl | exact Or.inr rfl)) (fun _ _ _ _ _ => pts_nil)
          (fun _ _ _ _ _ => (pe_cmpR op_eq (pe_call (ok_law_draw T) (hr.mono (by decide)) (by rfl) T.law_draw.g T.law_draw.F.kp T.law_draw.b .nil pass0 (pa_cons (pv 0) (pa_cons pe_int pa_nil))) pe_int (by rfl)))) pa_nil))))
      (pss_one (ps_ret (pe_make ⟨T.mk_Machine, T.Machine_init.m.at_, T.Machine_init.m.fn, T.kp_Machine⟩ (ok_Machine_init T) (hr.mono (by decide)) (by rfl) T.g_Machine T.Machine_init.b .nil pass0 (pa_cons (pv 1) (pa_cons (pe_ix ix_tup (pv 4) pe_int (fun _ _ => rfl)) (pa_cons (pe_ix ix_tup (pv 4) pe_int (fun _ _ => rfl)) pa_nil))))))), ?_⟩
    refine ⟨_, rfl, _, rfl, sg, rfl, sz (by omega), _, rfl, a, sg.length, m, rfl, hp, hn0, hn3, hm0, hm, fun H1 v R hR hp1 ho1 hdv => ?_⟩
    obtain ⟨va, xs, rfl, hS, hxl, hrow⟩ := dLR_row hdv
    have hfew := hR.few
    refine ⟨_, rfl, _, rfl, va, rfl, ⟨_, sq_same hS (del_same _ _)⟩, fun D nD => ?_⟩
    have naD : a ≠ D := hp1.ne nD
    refine lc_dp (walk_list (xs := xs)) (fun i acc H' => Pot H' a ∧ Off a H1 H' ∧ ∃ k : List Bool, acc = k.map V.bl ∧ k.length = i) (sz (by omega)) (fun i acc H' p => by obtain ⟨_, _, k, e, h⟩ := p; rw [e, List.length_map]; omega) nD ⟨hp1, Off.refl _ _, [], rfl, rfl⟩ (fun i acc H' p _ => sq_same hS ((off_del (off_in p.2.1)).trans (del_same _ _))) (fun i x Hh H' acc C N hi p hD y c nn => ?_) (fun H2 xs2 hD2 p => ?_)
    · obtain ⟨rfl, _⟩ := y
      obtain ⟨hpp, hoo, k, ek, hk⟩ := p
      refine ⟨rfl, yes_te ⟨_, rfl, a, 2, rfl, pot_in hpp, by decide, by decide, fun H4 g hg hp4 ho4 => ⟨rfl, ?_⟩⟩⟩
      exact c _ _ (ho4 _ _ hD naD.symm) ⟨pot_out hp4 naD, off_step hoo ho4, k ++ [decide (V.int (g : Int) = V.int 0)], by rw [ek, List.map_append]; rfl, by rw [List.length_append, hk]; rfl⟩
    · obtain ⟨hpp, hoo, k, rfl, hk⟩ := p
      have hp2 := pot_in hpp
      have ho2 := off_in hoo
      obtain ⟨px, py, hpa, _⟩ := id hp2
      have hGood : M14.Good sg.length (metR R) (metK R k) := M14.good_ren hR.val (by omega) hR.len hR.ne (List.Perm.refl _) (M14.met_head R 0) (by unfold metK; rw [List.length_map])
      refine ⟨a, _, .ref va, D, R, k.map V.bl, rfl, hpa, Dp.same (off_del ho2) hdv, .inl (.inl hD2), hR.val, hR.ne, by omega, (fun r hr => by rw [hR.len r hr]; exact hn3), by rw [List.length_map]; omega, fun H3 t qa qb s3 ht nat hda naq hqb => ?_⟩
      have ek : ((M14.met R 0).map fun p => (k.map V.bl).getD p .non) = (metK R k).map V.bl := by
        unfold metK
        rw [List.map_map]
        refine List.map_congr_left fun p hp => ?_
        have hpl := M14.met_lt hR.val hR.ne hp
        have hpk : p < k.length := by omega
        show (k.map V.bl).getD p .non = V.bl (M14.kAt k p)
        rw [List.getD_eq_getElem?_getD, kAt_get hpk]
        rfl
      rw [ek] at hqb
      have hda' := Dp.same (del_same H3 a) hda
      have hlm : (metR R).length ≤ m := by
        show ((M14.met R 0).map _).length ≤ m
        rw [List.length_map]
        exact Nat.le_trans (M14.met_len hR.val hR.ne) hfew
      refine ⟨_, rfl, _, rfl, t, _, _, _, rfl, rfl, ht, rfl, _, rfl, t, _, _, _, rfl, rfl, ht, rfl, ?_⟩
      intro x dx nx ndx _
      refine make_ok (k := metK R k) hl (rw_dLR hda') (sq_list (.inl (.inl hqb))) hGood nx ndx fun H4 s4 hM => ?_
      have ho4 := ho1.trans (ho2.trans (Off.of (s3.trans s4)))
      exact q _ x _ _ hlm (hp2.same (s3.trans s4)) ho4 ((ho1.trans (ho2.trans (Off.of s3))).free nx (hp2.same s3)) hM
end
end Lw
namespace L3
open PySem PySem.Spec PyProof.Rows L2 LamX NdefX
end L3
namespace L3
open PySem PySem.Spec PyProof.Rows L2 LamX NdefX
section
variable {X : Cx} {pins : List (Addr × Obj)} {σ : L2.St} {H : Hp} {s : Shared}
theorem lam_makeN {T : List NTab} {c P : Addr} {params : Arguments} {body : Expr} {scope : Scope} {pos : Pos} {E : Value → Shared → Prop} {Q : Value → Shared → Prop} (I : Inv X pins σ H s) (TB : TabB X.base X.mg c P) (hcode : X.env.code = .ref c)
    (hm : (P, fun _ _ => X.env.qual ++ "<lambda>") ∈ T) (hu : ∀ p ∈ T, p.1 = P → p.2 = fun _ _ => X.env.qual ++ "<lambda>") (hT : TabsN T H) (hdef : defaultsOf params X.env = ([], [])) (hfree : ∀ y ∈ scope.names, y.2 = .free → ∃ c, X.env.cells.lookup y.1 = some c)
    (h : ∀ (f c' : Addr) (pm ctv : Value) (H1 : Hp) (s' : Shared), Inv X pins σ H1 s' → ExtN H H1 → TabsN T H1 →
      s'.heap.get? f = some (PySem.W.kla_obj "<lambda>" (X.env.qual ++ "<lambda>") params body scope (cloFrom X.env.cells scope.names []) pm c' ctv) → H1 f = none → f ∉ frs X.stack → H1 c' = some (CodeO c' (X.env.qual ++ "<lambda>")) → Q (.ref f) s') :
    wpAny (model X.prog X.w) X.A (eval (.Lambda params body scope pos) X.env) Q E s := by
  obtain ⟨ps, hP, ht, ha⟩ := (show TabN H P (fun _ _ => X.env.qual ++ "<lambda>") from hT _ hm)
  refine PySem.W.kla_eval hdef ?_
  have bP : s.heap.BuiltinsAt X.mg P := TB.bm.keeps I.bk
  have hP' : s.heap.get? P = some { cls := .none, data := .fields ps } := I.hok P _ hP
  have nofr : ∀ f, s.heap.objs.size ≤ f → f ∉ frs X.stack := fun f hf z => by
    rcases List.mem_cons.mp (I.stkSub _ z) with e | e
    · have h1 := I.lt
      rw [← e] at h1
      exact Nat.lt_irrefl _ (Nat.lt_of_lt_of_le h1 hf)
    · exact I.nofs hf e
  cases hc : codeAmong pos ps.toList with
  | none =>
    refine PySem.W.kla_makeFunction (mg := X.mg) (c := c) (P := P) (ps := ps) (closure_ok hfree) I.ok.glob (I.mod.glob.keeps I.bk) hcode (TB.code.keeps I.bk) hP' ht hc TB.gP bP fun c' ctv h' tk hx hge hlt hrec htb => ?_
    obtain ⟨c2, oc, vs, t, e2, hoc, hd, hv⟩ := hrec
    cases e2
    have hsz : s.heap.objs.size ≤ h'.objs.size := Nat.le_trans hge (Nat.le_of_lt hlt)
    have nC : H c' = none := I.hok.fresh hge
    have I1 := inv_table (t' := tk) (more := #[rawInt pos.line, rawInt pos.col, .ref c']) (h' := h'.push (PySem.W.kla_obj "<lambda>" (X.env.qual ++ "<lambda>") params body scope (cloFrom X.env.cells scope.names []) ((X.mg "__name__").getD .none) c' ctv)) I hP
      (fun b o hb e => Heap.get?_push_of_some _ (hx b o hb e)) (Heap.get?_push_of_some _ htb) hge ⟨oc, vs, t, Heap.get?_push_of_some _ hoc, hd, hv⟩
    have hE : ExtN H (upd (upd H P (.tbl (ps ++ #[rawInt pos.line, rawInt pos.col, .ref c']))) c' (CodeO c' (X.env.qual ++ "<lambda>"))) := fun b o e n => by
      rw [upd_ne (ne_of_none e nC), upd_ne (fun z => n ps (Option.some.inj (e.symm.trans (by rw [z]; exact hP))))]
      exact e
    have eL : (ps ++ #[rawInt pos.line, rawInt pos.col, .ref c']).toList = ps.toList ++ [rawInt pos.line, rawInt pos.col, .ref c'] := by simp
    refine h h'.objs.size c' ((X.mg "__name__").getD .none) ctv _ _ I1 hE (fun p hp => ?_) (Heap.get?_push_size _ rfl) ?_ (nofr _ hsz) upd_same
    · by_cases hb : p.1 = P
      · rw [hu p hp hb, hb]
        refine ⟨_, by rw [upd_ne (ne_of_none hP nC), upd_same], by rw [eL]; exact PySem.TriplesOk_snoc _ _ _ _ ht, fun p' cv hcv => ?_⟩
        rw [eL] at hcv
        rcases among_app _ ht hcv with z | z
        · obtain ⟨c0, e1, e2⟩ := ha p' cv z
          exact ⟨c0, e1, hE _ _ e2 codeO_ne⟩
        · exact ⟨c', z, upd_same⟩
      · obtain ⟨ps', a1, a2, a3⟩ := hT p hp
        refine ⟨ps', by rw [upd_ne (ne_of_none a1 nC), upd_ne hb]; exact a1, a2, fun p' cv hcv => ?_⟩
        obtain ⟨c0, e1, e2⟩ := a3 p' cv hcv
        exact ⟨c0, e1, hE _ _ e2 codeO_ne⟩
    · have n1 : h'.objs.size ≠ c' := Nat.ne_of_gt hlt
      have n2 : h'.objs.size ≠ P := Nat.ne_of_gt (Nat.lt_of_lt_of_le (Heap.lt_size hP') hsz)
      rw [upd_ne n1, upd_ne n2]
      exact I.hok.fresh hsz
  | some cv =>
    obtain ⟨c', e, hco⟩ := ha pos cv hc
    subst e
    refine PySem.W.kla_makeFunctionHit (mg := X.mg) (c := c) (P := P) (ps := ps) (closure_ok hfree) I.ok.glob (I.mod.glob.keeps I.bk) hcode (TB.code.keeps I.bk) hP' ht hc bP fun ctv h' tk hx hsz => ?_
    have I1 : Inv X pins σ H { s with heap := h'.push (PySem.W.kla_obj "<lambda>" (X.env.qual ++ "<lambda>") params body scope (cloFrom X.env.cells scope.names []) ((X.mg "__name__").getD .none) c' ctv), toks := tk } := I.kept fun b o e => Heap.get?_push_of_some _ (hx b o e)
    exact h h'.objs.size c' ((X.mg "__name__").getD .none) ctv H _ I1 (ExtN.refl H) hT (Heap.get?_push_size _ rfl) (I.hok.fresh hsz) (nofr _ hsz) hco
end
/-- x(lambda: body), read -/
def tLamN (T : List NTab) (TT : (XK → Hp → VK → Prop) → Hp → VK → Prop) (t : XK → TE) : TE := fun σ H Q => TabsN T H ∧ ∀ H1, ExtN H H1 → TabsN T H1 → TT (fun E H' Q' => t E σ H' Q') H1 Q
/-- x(lambda: body) -/
theorem pe_lamSN {X : Cx} {T : List NTab} {TT : (XK → Hp → VK → Prop) → Hp → VK → Prop} {x a : Str} {g c P : Addr} {k : Nat} {st : Stmt} {fd : FuncData} {N : List Str} {params : Arguments} {body : Expr} {scope : Scope} {t : XK → TE} {p lpos pos : Pos}
    (hg : Gl X x) (hm : X.mg x = some (.ref g)) (F : Fun X.K x x st g fd) (hb : L2.Binds X.K fd [a] []) (S : FnScope N [a] (defScope st)) (hN : N[0]? = some a) (hv : Vis (defScope st) a)
    (hG : ∀ cdv, GivesS k X N x (defScope st) g cdv (defBody st) a (X.env.qual ++ "<lambda>") TT)
    (TB : TabB X.base X.mg c P) (hcode : X.env.code = .ref c) (hmT : (P, fun _ _ => X.env.qual ++ "<lambda>") ∈ T) (hu : ∀ p ∈ T, p.1 = P → p.2 = fun _ _ => X.env.qual ++ "<lambda>") (room : Room (k + 2) X.A) (L : LamS X.env.scope scope) (hdef : defaultsOf params X.env = ([], []))
    (hbind : ∀ (q : Str) (cl : List (Str × Addr)) (pm cv ctv : Value), bindArgs (PySem.W.kla_fn "<lambda>" q params body scope cl pm cv ctv) ⟨[], []⟩ = pure [])
    (hbody : ∀ (A : Around) (outer : List Env) (s : Shared) (H : Hp) (E : XK) (f c' : Addr), Room k (A.deeper (lamEnv X scope s.heap.objs.size f c')) → PE (lamCx X A outer s H E scope f c') body (t E))
    (hdb : (x == ("__debug__" : Str)) = false := by decide) (hd : (a == ("__debug__" : Str)) = false := by decide) (hcd : (a == ("__classdict__" : Str)) = false := by decide) :
    PE X (.Call (.Name x p) [.Lambda params body scope lpos] [] pos) (tLamN T TT t) := by
  refine ⟨fun pins s σ H Q I h => ?_⟩
  obtain ⟨hT, h⟩ := h
  obtain ⟨oc, od, kV, doc, pm0, an, cdv, ct, osl, efd, lk, hcg⟩ := F.ex
  refine wpAny_Call_Name_kw (ld_glob I hg hm ?_ hdb)
  refine PySem.W.callWith_K (h₀ := X.base) I.ok.mod.kin F.kp ?_ (by rfl) (by rfl)
  show wpAny _ _ (spliced ((false, eval (.Lambda params body scope lpos) X.env) :: backTo pos (starEach [] X.env))) _ _ s
  refine Calls.spliced_cons (lam_makeN I TB hcode hmT hu hT hdef (L.has I.ok) fun f c' pm' ctv H1 s' I1 eN T1 hf hfn hfr hco => ?_)
  refine Calls.spliced_nil ⟨I1.kIn, ?_⟩
  have rc : codeAny (model X.prog X.w) X.A (.call (.ref g) ⟨[.ref f], []⟩) (CR C8.CX0 X.stack X.prog X.w H1 s' Q C8.E0) s' := by
    subst efd
    refine run_ofS (N := N) (ps := [a]) (us := [.ref f]) (vs := [.ref f]) (k := k + 1) lk hcg S room I1.env0 (hb s' [.ref f] I1.kIn rfl) (.cons rfl .nil) rfl fun room' => ?_
    obtain ⟨t', ht', hq'⟩ := hG cdv f c' s' H1 Q (fun E H' Q' => t E σ H' Q') room' (fun W pn xe p1 p2 tk => pe_lam_run (k := k) I1 L hf hfn hfr (hbind _ _ _ _ _) tk room' (fun A outer s H E hr2 => hbody A outer s H E f c' hr2) hN hv hd hcd) hco (h H1 eN T1)
    exact ⟨t', ht'.nox, hq'⟩
  refine wpAny_call (codeAny_mono rc fun r s2 hq => ?_)
  match r, hq with
  | .error e, hq => exact (show False from hq).elim
  | .ok (.ret u), hq => exact I1.after hq
end L3
namespace Lw
open PySem PySem.Spec PyProof.Rows L3 NdefX
open L2 hiding del del_same del_ne
def lamQ (n : Str) : Str := (n ++ ".<locals>." : Str) ++ "<lambda>"
/-- the tables of the lambdas' code objects -/
abbrev NTs (Pt : Nat → Addr) : List NTab := [(Pt 0, fun _ _ => lamQ "_law_refusals_right"), (Pt 1, fun _ _ => lamQ "_law_change"), (Pt 2, fun _ _ => lamQ "_law_right")]
def Dst (Pt : Nat → Addr) : Prop := Pt 0 ≠ Pt 1 ∧ Pt 0 ≠ Pt 2 ∧ Pt 1 ≠ Pt 2
section
variable {Pt : Nat → Addr}
theorem ntm0 : (Pt 0, fun _ _ => lamQ "_law_refusals_right") ∈ NTs Pt := List.mem_cons_self
theorem ntm1 : (Pt 1, fun _ _ => lamQ "_law_change") ∈ NTs Pt := List.mem_cons_of_mem _ List.mem_cons_self
theorem ntm2 : (Pt 2, fun _ _ => lamQ "_law_right") ∈ NTs Pt := List.mem_cons_of_mem _ (List.mem_cons_of_mem _ List.mem_cons_self)
theorem nt_u0 (hD : Dst Pt) : ∀ p ∈ NTs Pt, p.1 = Pt 0 → p.2 = fun _ _ => lamQ "_law_refusals_right" := fun p hp e => by
  simp only [List.mem_cons, List.not_mem_nil, or_false] at hp
  obtain ⟨d1, d2, d3⟩ := hD
  rcases hp with rfl | rfl | rfl <;> first | exact absurd e (by assumption) | exact absurd e.symm (by assumption) | rfl
theorem nt_u1 (hD : Dst Pt) : ∀ p ∈ NTs Pt, p.1 = Pt 1 → p.2 = fun _ _ => lamQ "_law_change" := fun p hp e => by
  simp only [List.mem_cons, List.not_mem_nil, or_false] at hp
  obtain ⟨d1, d2, d3⟩ := hD
  rcases hp with rfl | rfl | rfl <;> first | exact absurd e (by assumption) | exact absurd e.symm (by assumption) | rfl
theorem nt_u2 (hD : Dst Pt) : ∀ p ∈ NTs Pt, p.1 = Pt 2 → p.2 = fun _ _ => lamQ "_law_right" := fun p hp e => by
  simp only [List.mem_cons, List.not_mem_nil, or_false] at hp
  obtain ⟨d1, d2, d3⟩ := hD
  rcases hp with rfl | rfl | rfl <;> first | exact absurd e (by assumption) | exact absurd e.symm (by assumption) | rfl
end
/-- an error that is heard -/
inductive ErrO where
  | ref (i : Nat) (v : V)
  | lost (v : V)
  | letters (x y : List Nat)
  | nothing
def outL : ErrO → List V
  | .ref _ v => [.str "refused", v, .bl true]
  | .lost v => [.str "lost", v]
  | .letters x y => [.str "letters", tx x, tx y, .bl true]
  | .nothing => [.str "nothing", .bl true]
section
variable {w : World} {K : PySem.W.Frag} {mg : Str → Option Value} {base : Heap}
def Cs (T : All K mg) : List Addr := [T.C_InvalidCommand, T.C_InvalidLetter, T.C_InvalidMachine, T.C_InvalidPlace, T.C_InvalidText, T.C_NotComeTo, T.C_OtherLetters, T.C_NothingToUndo]
theorem et_at (T : All K mg) {i j : Nat} {a b : Addr} {r : Bool} (h : (Cs T)[i]? = some a) (h2 : (Cs T)[j]? = some b) (hr : decide (i = j) = r) : PySem.W.exmOne K (.ref a) (.ref b) = some r := by
  have m1 : (a, i) ∈ (Cs T).zipIdx := List.mk_mem_zipIdx_iff_getElem?.mpr h
  have m2 : (b, j) ∈ (Cs T).zipIdx := List.mk_mem_zipIdx_iff_getElem?.mpr h2
  have e := of_decide_eq_true (List.all_eq_true.mp (List.all_eq_true.mp T.et _ m1) _ m2)
  rw [← hr]
  exact e
theorem exm5 (T : All K mg) {i : Nat} {a : Addr} (h : (Cs T)[i]? = some a) : PySem.W.exmAny K (.ref a) [.ref T.C_InvalidCommand, .ref T.C_InvalidLetter, .ref T.C_InvalidMachine, .ref T.C_InvalidPlace, .ref T.C_InvalidText] = some (decide (i < 5)) := by
  have e0 := et_at T h (j := 0) rfl rfl
  have e1 := et_at T h (j := 1) rfl rfl
  have e2 := et_at T h (j := 2) rfl rfl
  have e3 := et_at T h (j := 3) rfl rfl
  have e4 := et_at T h (j := 4) rfl rfl
  simp only [PySem.W.exmAny, e0, e1, e2, e3, e4]
  have : (decide (i = 0) || (decide (i = 1) || (decide (i = 2) || (decide (i = 3) || (decide (i = 4) || false))))) = decide (i < 5) := by
    rw [Bool.eq_iff_iff]
    simp only [Bool.or_eq_true, decide_eq_true_eq, Bool.false_eq_true, or_false]
    omega
  rw [this]
def Raises (T : All K mg) (H : Hp) (cls : Value) (d : Option Addr) : ErrO → Prop
  | .ref i v => i < 5 ∧ ∃ C e, (Cs T)[i]? = some C ∧ cls = .ref C ∧ d = some e ∧ H e = some (.xd [("value", v)])
  | .lost v => ∃ e, cls = .ref T.C_NotComeTo ∧ d = some e ∧ H e = some (.xd [("place", v)])
  | .letters x y => ∃ e, cls = .ref T.C_OtherLetters ∧ d = some e ∧ H e = some (.xd [("other", tx y), ("one", tx x)])
  | .nothing => cls = .ref T.C_NothingToUndo ∧ d = none
/-- what a call of _law_heard tells -/
def THeard (T : All K mg) : (XK → Hp → VK → Prop) → Hp → VK → Prop := fun tl H Q =>
  ∀ (E : XK) (Qv : VK), (∀ H2 cls d o, Raises T H2 cls d o → (∀ p, H2 p = none → Q (.ref p) (upd H2 p (.lst (outL o)))) → E cls d H2) →
    (∀ H2 v, (∀ p, H2 p = none → Q (.ref p) (upd H2 p (.lst [.str "told", v]))) → Qv v H2) → tl E H Qv
theorem kg_parts (T : All K mg) {i : Nat} {a : Addr} (h : (Cs T)[i]? = some a) (hi : i < 5) : PySem.W.kitOne K (.ref a) (.ref T.C_PartsError) = some true := by
  have e := (Bool.and_eq_true_iff.mp T.kg).1
  have m : a ∈ [T.C_InvalidCommand, T.C_InvalidLetter, T.C_InvalidMachine, T.C_InvalidPlace, T.C_InvalidText] := by
    match i, hi, h with
    | 0, _, h => cases h; simp
    | 1, _, h => cases h; simp
    | 2, _, h => cases h; simp
    | 3, _, h => cases h; simp
    | 4, _, h => cases h; simp
  exact of_decide_eq_true (List.all_eq_true.mp e _ m)
theorem kg_state (T : All K mg) {a : Addr} (m : a ∈ [T.C_OtherLetters, T.C_NothingToUndo]) : PySem.W.kitOne K (.ref a) (.ref T.C_StateError) = some true := by
  have e := (Bool.and_eq_true_iff.mp T.kg).2
  exact of_decide_eq_true (List.all_eq_true.mp e _ m)
theorem xf5 (T : All K mg) {i : Nat} {a : Addr} (h : (Cs T)[i]? = some a) (hi : i < 5) : XfC K a ∧ ExcC K a ∧ PySem.W.findIn K (.ref a) "value" = some none := by
  match i, hi, h with
  | 0, _, h => cases h; exact ⟨T.xf_InvalidCommand, T.xc_InvalidCommand, T.nf_InvalidCommand_value⟩
  | 1, _, h => cases h; exact ⟨T.xf_InvalidLetter, T.xc_InvalidLetter, T.nf_InvalidLetter_value⟩
  | 2, _, h => cases h; exact ⟨T.xf_InvalidMachine, T.xc_InvalidMachine, T.nf_InvalidMachine_value⟩
  | 3, _, h => cases h; exact ⟨T.xf_InvalidPlace, T.xc_InvalidPlace, T.nf_InvalidPlace_value⟩
  | 4, _, h => cases h; exact ⟨T.xf_InvalidText, T.xc_InvalidText, T.nf_InvalidText_value⟩
theorem heard_gives {X : Cx} (T : All K mg) (hK : X.K = K) (hm : X.mg = mg) {q : Str} (cdv : Value) : GivesS 12 X ["_law_call", "_law_told", "e"] "_law_heard" (defScope s_law_heard) T.f_law_heard cdv (defBody s_law_heard) "_law_call" q (THeard T) := by
  subst hK hm
  intro f c' s H Q tl hr act hc h
  refine ⟨_, (pss_cons (ps_try_mixT (Wout := fun _ _ _ _ => False) rfl rfl sc_law_heard.nd takes0
        (fun W pn xe tk _ => pss_one (ps_set (i := 1) sc_law_heard.nd rfl (Or.inl rfl) (act W pn xe _ _ tk)))
        (.many (i := 2) (.cons ⟨rfl, by decide, Or.inl T.g_InvalidCommand⟩ (.cons ⟨rfl, by decide, Or.inl T.g_InvalidLetter⟩ (.cons ⟨rfl, by decide, Or.inl T.g_InvalidMachine⟩ (.cons ⟨rfl, by decide, Or.inl T.g_InvalidPlace⟩ (.cons ⟨rfl, by decide, Or.inl T.g_InvalidText⟩ .nil))))) (by show 5 ≤ 100; decide) rfl rfl (fun a oe cls d pn hz hf => pss_one (ps_ret (pe_lst (pa_cons pe_str (pa_cons (pe_xfA hz hf (pv 2)) (pa_cons (pe_callB (call_isA hz hf) (by rfl) T.b_isinstance boot_isinstance (pa_cons (pv 2) (pa_cons (pe_glob (v := .ref T.C_PartsError) rfl T.g_PartsError rfl) pa_nil))) pa_nil))))))
        (.named (i := 2) ⟨rfl, by decide, Or.inl T.g_NotComeTo⟩ rfl rfl (fun a oe cls d pn hz hf => pss_one (ps_ret (pe_lst (pa_cons pe_str (pa_cons (pe_xf T.xf_NotComeTo T.nf_NotComeTo_place hz hf (pv 2)) pa_nil)))))
        (.named (i := 2) ⟨rfl, by decide, Or.inl T.g_OtherLetters⟩ rfl rfl (fun a oe cls d pn hz hf => pss_one (ps_ret (pe_lst (pa_cons pe_str (pa_cons (pe_xf T.xf_OtherLetters T.nf_OtherLetters_one hz hf (pv 2)) (pa_cons (pe_xf T.xf_OtherLetters T.nf_OtherLetters_other hz hf (pv 2)) (pa_cons (pe_callB (call_isA hz hf) (by rfl) T.b_isinstance boot_isinstance (pa_cons (pv 2) (pa_cons (pe_glob (v := .ref T.C_StateError) rfl T.g_StateError rfl) pa_nil))) pa_nil)))))))
        (.named (i := 2) ⟨rfl, by decide, Or.inl T.g_NothingToUndo⟩ rfl rfl (fun a oe cls d pn hz hf => pss_one (ps_ret (pe_lst (pa_cons pe_str (pa_cons (pe_callB (call_isA hz hf) (by rfl) T.b_isinstance boot_isinstance (pa_cons (pv 2) (pa_cons (pe_glob (v := .ref T.C_StateError) rfl T.g_StateError rfl) pa_nil))) pa_nil)))))
        .nil)))))
      (pss_one (ps_ret (pe_lst (pa_cons pe_str (pa_cons (pv 1) pa_nil)))))), ?_⟩
  try dsimp only [cxOf]
  refine ⟨rfl, hc, h _ _ (fun H2 cls d o hr k => ?_) (fun H2 v k => ?_)⟩
  · cases o with
    | ref i v =>
      obtain ⟨hi, C, e, hC, rfl, rfl, he⟩ := hr
      obtain ⟨x1, x2, x3⟩ := xf5 T hC hi
      refine ⟨true, (exm5 T hC).trans (by rw [decide_eq_true hi]), (fun _ aa ha => ?_), fun z => Bool.noConfusion z⟩
      refine ⟨_, rfl, rfl, C, e, _, v, rfl, x1, x3, rfl, he, rfl, ?_⟩
      refine ⟨_, rfl, C, x2, .inl ⟨_, _, true, e, _, rfl, rfl, rfl, he, (fun u ru => ru), kg_parts T hC hi, ?_⟩⟩
      exact ⟨by show 3 ≤ sizeLine; decide, fun p np => k p np⟩
    | lost v =>
      obtain ⟨e, rfl, rfl, he⟩ := hr
      refine ⟨false, exm5 T (i := 5) rfl, (fun z => Bool.noConfusion z), fun _ => ?_⟩
      refine ⟨true, et_at T (i := 5) (j := 5) rfl rfl rfl, (fun _ aa ha => ?_), fun z => Bool.noConfusion z⟩
      refine ⟨_, rfl, rfl, rfl, e, _, v, rfl, he, rfl, ?_⟩
      exact ⟨by show 2 ≤ sizeLine; decide, fun p np => k p np⟩
    | letters x y =>
      obtain ⟨e, rfl, rfl, he⟩ := hr
      refine ⟨false, exm5 T (i := 6) rfl, (fun z => Bool.noConfusion z), fun _ => ?_⟩
      refine ⟨false, et_at T (i := 6) (j := 5) rfl rfl rfl, (fun z => Bool.noConfusion z), fun _ => ?_⟩
      refine ⟨true, et_at T (i := 6) (j := 6) rfl rfl rfl, (fun _ aa ha => ?_), fun z => Bool.noConfusion z⟩
      refine ⟨_, rfl, rfl, rfl, e, _, _, rfl, he, rfl, _, rfl, rfl, rfl, e, _, _, rfl, he, rfl, ?_⟩
      refine ⟨_, rfl, T.C_OtherLetters, T.xc_OtherLetters, .inl ⟨_, _, true, e, _, rfl, rfl, rfl, he, (fun u ru => ru), kg_state T (by simp), ?_⟩⟩
      exact ⟨by show 4 ≤ sizeLine; decide, fun p np => k p np⟩
    | nothing =>
      obtain ⟨rfl, rfl⟩ := hr
      refine ⟨false, exm5 T (i := 7) rfl, (fun z => Bool.noConfusion z), fun _ => ?_⟩
      refine ⟨false, et_at T (i := 7) (j := 5) rfl rfl rfl, (fun z => Bool.noConfusion z), fun _ => ?_⟩
      refine ⟨false, et_at T (i := 7) (j := 6) rfl rfl rfl, (fun z => Bool.noConfusion z), fun _ => ?_⟩
      refine ⟨true, et_at T (i := 7) (j := 7) rfl rfl rfl, (fun _ aa ha => ?_), fun z => Bool.noConfusion z⟩
      refine ⟨_, rfl, T.C_NothingToUndo, T.xc_NothingToUndo, .inr ⟨rfl, rfl, _, _, true, rfl, (fun u ru => ru), kg_state T (by simp), ?_⟩⟩
      exact ⟨by show 2 ≤ sizeLine; decide, fun p np => k p np⟩
  · exact ⟨_, rfl, by show 2 ≤ sizeLine; decide, fun p np => k p np⟩
end
end Lw
namespace L3
open PySem PySem.Spec PyProof.Rows L2
/-- what equals itself at once -/
def okF : V → Bool
  | .non => true
  | .bl _ => true
  | .int _ => true
  | .str _ => true
  | _ => false
def OkE (x : V) : Prop := okF x = true ∨ ∃ a, x = .ref a
section
variable {X : Cx}
theorem eqV_self {x : V} (h : okF x = true) : eqV x x = true ∧ flatV x = true := by
  cases x <;> first | exact ⟨rfl, rfl⟩ | exact ⟨by simp [eqV], rfl⟩ | cases h
theorem EqStep.same {H : Hp} {x : V} (h : OkE x) : EqStep X H x x true := by
  rcases h with h | ⟨a, rfl⟩
  · intro pins s σ H' u v Q E' I sm r1 r2 hQ
    have e := eqAt_V (A := X.A.in1) (s := s) r1 r2 (eqV_self h).2 (eqV_self h).2
    rw [(eqV_self h).1] at e
    exact e _ _ _ _ (hQ H' s I (Same.refl _))
  · exact EqStep.self
theorem all_true (n : Nat) : (List.range n).all (fun _ => true) = true := by
  rw [List.all_eq_true]; intros; rfl
theorem op_eqSame (hu : X.A.units + 64 < cLine) : OpR X (compareOp .Eq) (fun x y H Q => ∃ (l r : Addr) (L : List V), x = .ref l ∧ y = .ref r ∧ H l = some (.lst L) ∧ H r = some (.lst L) ∧ (∀ v ∈ L, OkE v) ∧ ∀ H', Same H H' → Q (.bl true) H') := by
  intro pins s σ H x y v u Q I rx ry h
  obtain ⟨l, r, L, rfl, rfl, hl, hr, ho, q⟩ := h
  refine op_eqL hu pins s σ H _ _ v u Q I rx ry ⟨l, r, L, L, fun _ => true, rfl, rfl, fun H' sm => .inl (.inl (sm _ _ hl)), fun H' sm => .inl (.inl (sm _ _ hr)), rfl, fun i x y e1 e2 => ?_, fun H' sm => ?_⟩
  · rw [e1] at e2
    cases e2
    exact EqStep.same (ho _ (List.mem_of_getElem? e1))
  · rw [all_true]
    exact q H' sm
theorem op_neSame (hu : X.A.units + 64 < cLine) : OpR X (compareOp .NotEq) (fun x y H Q => ∃ (l r : Addr) (L : List V), x = .ref l ∧ y = .ref r ∧ H l = some (.lst L) ∧ H r = some (.lst L) ∧ (∀ v ∈ L, OkE v) ∧ ∀ H', Same H H' → Q (.bl false) H') := by
  intro pins s σ H x y v u Q I rx ry h
  obtain ⟨l, r, L, rfl, rfl, hl, hr, ho, q⟩ := h
  refine op_neL hu pins s σ H _ _ v u Q I rx ry ⟨l, r, L, L, fun _ => true, rfl, rfl, fun H' sm => .inl (.inl (sm _ _ hl)), fun H' sm => .inl (.inl (sm _ _ hr)), rfl, fun i x y e1 e2 => ?_, fun H' sm => ?_⟩
  · rw [e1] at e2
    cases e2
    exact EqStep.same (ho _ (List.mem_of_getElem? e1))
  · rw [all_true]
    exact q H' sm
end
end L3
namespace L3
open PySem PySem.Spec PyProof.Rows L2
end L3
namespace Lw
open PySem PySem.Spec PyProof.Rows L3
open L2 hiding del del_same del_ne
section
variable {w : World} {K : PySem.W.Frag} {mg : Str → Option Value} {base : Heap}
def spJoinF (T : All K mg) (f : Bool → Bool → Bool) : Sp := fun vs H Q E => ∃ (l : List Addr) (d : Addr) (v : V) (sg : List Nat) (one other : MV) (past : List (MV × MV)), vs = [.ref d, v] ∧ d ∈ l ∧ LooseL l H ∧ DeskS T.C_Machine T.C_Desk K l H d sg one other past ∧ past.length ≤ 1000 ∧
  ((∃ (b : Addr) (m : MV), v = .ref b ∧ MachV T.C_Machine K H b sg m ∧ one.1.length * m.1.length ≤ 40 ∧ NewD T l H d sg (M16.pairR one.1 m.1, M16.pairK f one.1 m.1 one.2 m.2) other (past ++ [(one, other)]) (Q .non)) ∨ BadO T H E sg v)
theorem ok_law_joined (T : All K mg) : FnOk PW w K mg base (L2.CX PW w) 10 T.f_law_joined T.d_law_joined ["_law_held", "_law_thing"] (spJoinF T or) := by
  refine T.law_joined.F.okX sc_law_joined (fun vs H Q E h => ?_) (fun cdv A outer s H vs Q E hr h => ?_)
  · obtain ⟨l, d, v, sg, one, other, past, rfl, _⟩ := h
    rfl
  · obtain ⟨l, d, v, sg, one, other, past, rfl, hdl, hl, hD, hz, h⟩ := h
    obtain ⟨dd, a0, b0, p0, ts, hd, _⟩ := id hD.ex
    refine ⟨_, pss_one (ps_aug (i := 0) sc_law_joined.nd rfl (by first | exact Or.inl rfl | exact Or.inr rfl) (pv 1) (iop_ownA (op := .Add) (ok_Desk_iadd T) (hr.mono (by decide)) T.Desk_iadd.b T.Desk_iadd.m T.sfD (passes_call (takes_of rfl rfl rfl rfl) (fun _ _ _ _ h => h)))), ?_⟩
    try dsimp only [cxOf]
    rcases h with ⟨b, m, rfl, hN, hmul, q⟩ | h
    · exact ⟨_, rfl, _, rfl, d, dd, _, rfl, hd, l, d, _, sg, one, other, past, rfl, hdl, hl, hD, hz, .inl ⟨b, m, rfl, hN, hmul, fun H' e hD' => ⟨d, rfl, q H' e hD'⟩⟩⟩
    · exact ⟨_, rfl, _, rfl, d, dd, _, rfl, hd, l, d, _, sg, one, other, past, rfl, hdl, hl, hD, hz, .inr h⟩
theorem ok_law_cut (T : All K mg) : FnOk PW w K mg base (L2.CX PW w) 10 T.f_law_cut T.d_law_cut ["_law_held", "_law_thing"] (spJoinF T fun a b => a && !b) := by
  refine T.law_cut.F.okX sc_law_cut (fun vs H Q E h => ?_) (fun cdv A outer s H vs Q E hr h => ?_)
  · obtain ⟨l, d, v, sg, one, other, past, rfl, _⟩ := h
    rfl
  · obtain ⟨l, d, v, sg, one, other, past, rfl, hdl, hl, hD, hz, h⟩ := h
    obtain ⟨dd, a0, b0, p0, ts, hd, _⟩ := id hD.ex
    refine ⟨_, pss_one (ps_aug (i := 0) sc_law_cut.nd rfl (by first | exact Or.inl rfl | exact Or.inr rfl) (pv 1) (iop_ownA (op := .Sub) (ok_Desk_isub T) (hr.mono (by decide)) T.Desk_isub.b T.Desk_isub.m T.sfD (passes_call (takes_of rfl rfl rfl rfl) (fun _ _ _ _ h => h)))), ?_⟩
    try dsimp only [cxOf]
    rcases h with ⟨b, m, rfl, hN, hmul, q⟩ | h
    · exact ⟨_, rfl, _, rfl, d, dd, _, rfl, hd, l, d, _, sg, one, other, past, rfl, hdl, hl, hD, hz, .inl ⟨b, m, rfl, hN, hmul, fun H' e hD' => ⟨d, rfl, q H' e hD'⟩⟩⟩
    · exact ⟨_, rfl, _, rfl, d, dd, _, rfl, hd, l, d, _, sg, one, other, past, rfl, hdl, hl, hD, hz, .inr h⟩
theorem mark_at (a b : Bool) : atI [V.str "none", V.str "other", V.str "one", V.str "both"] (2 * (if a = true then (1 : Int) else 0) + (if b = true then (1 : Int) else 0)) = some (.str (mark a b)) := by cases a <;> cases b <;> rfl
theorem ne_self (x : V) : (!decide (x = x)) = false := by simp
theorem mark_ne (a b : Bool) : (!decide (V.bl (a || b) = V.bl (decide ((0 : Int) < 2 * (if a = true then (1 : Int) else 0) + (if b = true then (1 : Int) else 0))))) = false := by cases a <;> cases b <;> decide +kernel
theorem flat_one : ∀ t : List Nat, (t.map fun c => [c]).flatten = t
  | [] => rfl
  | c :: t => by rw [List.map_cons, List.flatten_cons, flat_one t]; rfl
theorem glue_fold (g : Str) (hg : g.cps = #[]) : ∀ (ls : List (List Nat)) (acc : Array Nat), (ls.map tS).foldl (fun acc p => acc ++ g.cps ++ p.cps) acc = acc ++ ls.flatten.toArray
  | [], acc => by simp
  | l :: ls, acc => by
    rw [List.map_cons, List.foldl_cons, glue_fold g hg ls, hg]
    simp
theorem join_tx (ls : List (List Nat)) : Txt.join ("" : Str) (ls.map tS) = tS ls.flatten := by
  show (⟨((ls.map tS).drop 1).foldl (fun acc p => acc ++ ("" : Str).cps ++ p.cps) ((ls.map tS).headD Str.empty).cps⟩ : Str) = _
  have hg : ("" : Str).cps = #[] := by decide +kernel
  cases ls with
  | nil => rfl
  | cons l ls =>
    show (⟨(ls.map tS).foldl (fun acc p => acc ++ ("" : Str).cps ++ p.cps) l.toArray⟩ : Str) = _
    rw [glue_fold _ hg]
    simp
theorem sum_one : ∀ cs : List Nat, ((cs.map fun c => tS [c]).map (·.length)).sum = cs.length
  | [] => rfl
  | c :: cs => by
    rw [List.map_cons, List.map_cons, List.sum_cons, sum_one cs, List.length_cons, tS_len]
    show 1 + cs.length = _
    omega
theorem join_one (t : List Nat) : Txt.join ("" : Str) (t.map fun c => tS [c]) = tS t := by
  have h := join_tx (t.map fun c => [c])
  rw [List.map_map, flat_one] at h
  exact h
theorem or_to {a c : TT} {t u : TS} {D : Ends} {σ : L2.St} {H : Hp} (R : Hp → Prop) (ha : ∀ Q : Bool → Hp → Prop, (∀ H1, R H1 → Q false H1) → a σ H Q) (k : ∀ H1, R H1 → tIfS c t u D σ H1) : tIfS (tOr a c) t u D σ H :=
  ha _ fun H1 r => iteF (k H1 r)
theorem if_to {a : TT} {t u : TS} {D : Ends} {σ : L2.St} {H : Hp} (R : Hp → Prop) (ha : ∀ Q : Bool → Hp → Prop, (∀ H1, R H1 → Q false H1) → a σ H Q) (k : ∀ H1, R H1 → u D σ H1) : tIfS a t u D σ H :=
  ha _ fun H1 r => iteF (k H1 r)
theorem Off.kp {a : Addr} {l : List Addr} {H H' : Hp} (x : Off a H H') (h : a ∈ l) : Kp l H H' := fun b o e n _ => x b o e fun z => n (by rw [z]; exact h)
/-- two machines of the law beside a desk -/
structure Two (T : All K mg) (l : List Addr) (H : Hp) (d x y : Addr) (sg : List Nat) (one other : MV) (past : List (MV × MV)) : Prop where
  desk : DeskS T.C_Machine T.C_Desk K l H d sg one other past
  mx : MachV T.C_Machine K (hide l H) x sg one
  my : MachV T.C_Machine K (hide l H) y sg other
theorem Two.keep {T : All K mg} {l : List Addr} {H H' : Hp} {d x y : Addr} {sg : List Nat} {one other : MV} {past : List (MV × MV)} (h : Two T l H d x y sg one other past) (s : Kp l H H') (hd : H' d = H d) : Two T l H' d x y sg one other past :=
  ⟨h.desk.keep s hd, h.mx.ext s.hide, h.my.ext s.hide⟩
theorem Two.off {T : All K mg} {l : List Addr} {H H' : Hp} {a d x y : Addr} {sg : List Nat} {one other : MV} {past : List (MV × MV)} (h : Two T l H d x y sg one other past) (s : Off a H H') (ha : a ∈ l) (n : d ≠ a) : Two T l H' d x y sg one other past := by
  obtain ⟨dd, a0, b0, p0, ts, hd, _⟩ := id h.desk.ex
  exact h.keep (s.kp ha) (by rw [s _ _ hd n, hd])
theorem Two.same {T : All K mg} {l : List Addr} {H H' : Hp} {d x y : Addr} {sg : List Nat} {one other : MV} {past : List (MV × MV)} (h : Two T l H d x y sg one other past) (s : Same H H') : Two T l H' d x y sg one other past := by
  obtain ⟨dd, a0, b0, p0, ts, hd, _⟩ := id h.desk.ex
  exact h.keep (.same s) (by rw [s _ _ hd, hd])
def spStands (T : All K mg) : Sp := fun vs H Q _ => ∃ (a d x y : Addr) (l : List Addr) (sg : List Nat) (one other : MV) (past : List (MV × MV)), vs = [.ref a, .ref d, .ref x, .ref y, .int (past.length : Int)] ∧ Pot H a ∧ a ∈ l ∧ d ≠ a ∧ Two T l H d x y sg one other past ∧ past.length ≤ 1000 ∧ ∀ H', Pot H' a → Off a H H' → Q (.bl true) H'
theorem ok_law_stands (T : All K mg) : FnOkG PW w K mg base CX0 12 T.f_law_stands T.d_law_stands ["_law_pot_here", "_law_held", "_law_one", "_law_other", "_law_many"] (spStands T) := by
  refine okG T.law_stands.F sc_law_stands (fun vs H Q E h => ?_) (fun cdv A outer s H vs Q E hr hG h => ?_)
  · obtain ⟨a, d, x, y, l, sg, one, other, past, rfl, _⟩ := h
    rfl
  · obtain ⟨a, d, x, y, l, sg, one, other, past, rfl, hp, hal, hda, h2, hz, q⟩ := h
    obtain ⟨dd, a0, b0, p0, ts, hd, ha0, hb0, _⟩ := id h2.desk.ex
    have hx := h2.mx.same hide_le
    have hy := h2.my.same hide_le
    have hx0 := ha0.same hide_le
    have hy0 := hb0.same hide_le
    obtain ⟨dx, r1, q1, hxt, _⟩ := id hx.at_
    obtain ⟨dy, r2, q2, hyt, _⟩ := id hy.at_
    obtain ⟨dx0, r3, q3, hxt0, _⟩ := id hx0.at_
    obtain ⟨dy0, r4, q4, hyt0, _⟩ := id hy0.at_
    refine ⟨_, pss_cons (ps_if (PW.pt (pw_or (pt_cmpR (op_neOwn (FnOkG.of (ok_Machine_eq T)) (hr.mono (by decide)) hG T.Machine_eq.b T.Machine_eq.m (mro_obj T.mk_Machine) T.ne_Machine) (pe_fld (pv 1) rfl) (pv 2) (nomark _)) (pw_or (pt_cmpR (op_neOwn (FnOkG.of (ok_Machine_eq T)) (hr.mono (by decide)) hG T.Machine_eq.b T.Machine_eq.m (mro_obj T.mk_Machine) T.ne_Machine) (pe_fld (pv 1) rfl) (pv 3) (nomark _)) (pw_or (pt_cmpR op_ne (pe_callB (cr_lenOwn (FnOkG.of (ok_Desk_len T)) (hr.mono (by decide)) hG T.Desk_len.b T.Desk_len.m) (by rfl) T.b_len PySem.boot_len (pa_cons (pv 1) pa_nil)) (pv 4) (nomark _)) (pw_or1 (pt_cmpR op_ne (pe_callB (cr_reprOwn (FnOkH.toG (ok_Machine_repr T)) (hr.mono (by decide)) hG T.Machine_repr.b T.Machine_repr.m) (by rfl) T.b_repr (by decide +kernel) (pa_cons (pe_fld (pv 1) rfl) pa_nil)) (pe_callB (cr_reprOwn (FnOkH.toG (ok_Machine_repr T)) (hr.mono (by decide)) hG T.Machine_repr.b T.Machine_repr.m) (by rfl) T.b_repr (by decide +kernel) (pa_cons (pv 2) pa_nil)) (nomark _))))))) (pss_one (ps_ret pe_bl)) pss_nil)
      (pss_cons (ps_for PassesOwn.never rfl (pi_range1 rfl T.b_range (pa_cons pe_int pa_nil)) (pg_name (i := 5) sc_law_stands.nd rfl (by first | exact Or.inl rfl | exact Or.inr rfl))
        (pss_cons (ps_set (i := 6) sc_law_stands.nd rfl (by first | exact Or.inl rfl | exact Or.inr rfl) (pe_join pe_str (pe_lc (own := [("_law_more", 7)]) (g := gName 7) (tt := tYes) rfl sc_law_stands.nd (pi_range1 rfl T.b_range (pa_cons (pe_call (ok_law_draw T) (hr.mono (by decide)) (by rfl) T.law_draw.g T.law_draw.F.kp T.law_draw.b .nil pass0 (pa_cons (pv 0) (pa_cons pe_int pa_nil))) pa_nil))
          (blkOk_by (own := [("_law_more", 7)]) (N := ["_law_pot_here", "_law_held", "_law_one", "_law_other", "_law_many", "_law_turn", "_law_text", "_law_more", "_law_mark", "_law_value"]) (sc := defScope s_law_stands) (by decide +kernel))
          (fun _ _ _ _ _ => pg_name (i := 7) sc_law_stands.nd rfl (by first | exact Or.inl rfl | exact Or.inr rfl)) (fun _ _ _ _ _ => pts_nil)
          (fun _ _ _ _ _ => (pe_call (ok_law_pick T) (hr.mono (by decide)) (by rfl) T.law_pick.g T.law_pick.F.kp T.law_pick.b .nil pass0 (pa_cons (pv 0) (pa_cons (pe_prop (pv 2) T.cl_Machine T.Machine_letters.p (ok_Machine_letters T) (hr.mono (by decide)) T.Machine_letters.b .nil pass0 rfl) pa_nil)))))))
      (pss_cons (ps_set (i := 8) sc_law_stands.nd rfl (by first | exact Or.inl rfl | exact Or.inr rfl) (pe_op op_add (pe_op op_mul pe_int (pe_callTy call_int1 (by rfl) T.b_int PyProof.Rows.boot_int (pa_cons (pe_meth (pv 2) T.cl_Machine T.Machine_takes.m (ok_Machine_takes T) (hr.mono (by decide)) T.Machine_takes.b .nil pass0 (pa_cons (pv 6) pa_nil)) pa_nil))) (pe_callTy call_int1 (by rfl) T.b_int PyProof.Rows.boot_int (pa_cons (pe_meth (pv 3) T.cl_Machine T.Machine_takes.m (ok_Machine_takes T) (hr.mono (by decide)) T.Machine_takes.b .nil pass0 (pa_cons (pv 6) pa_nil)) pa_nil))))
      (pss_one (ps_if (PW.pt (pw_or (pt_cmpR op_ne (pe_ixOwn (ok_Desk_getitem T) (hr.mono (by decide)) T.Desk_getitem.b T.Desk_getitem.m T.Desk_getitem.F passE0 (pv 1) (pv 6) (fun _ _ => rfl)) (pe_ix ix_list (pe_lst (pa_cons pe_str (pa_cons pe_str (pa_cons pe_str (pa_cons pe_str pa_nil))))) (pv 8) (fun _ _ => rfl)) (nomark _)) (pw_or1 (pt_cmpR op_ne (pe_cmpR (op_inOwn (FnOkG.of (ok_Desk_contains T)) (hr.mono (by decide)) hG T.Desk_contains.b T.Desk_contains.m) (pv 6) (pv 1) (by rfl)) (pe_cmpR op_gt (pv 8) pe_int (by rfl)) (nomark _))))) (pss_one (ps_ret pe_bl)) pss_nil)))))
      (pss_one (ps_ret (pe_not (pe_callB (cr_any rfl) (by rfl) T.b_any PyProof.Rows.boot_any (pa_cons (pe_lc (own := [("_law_value", 9)]) (g := gName 9) (tt := tYes) rfl sc_law_stands.nd (pi_list (pe_lst (pa_cons pe_non (pa_cons pe_int (pa_cons (pv 2) (pa_cons pe_str (pa_cons (pe_lst (pa_cons pe_str pa_nil)) (pa_cons (pe_op op_addT (pe_prop (pv 2) T.cl_Machine T.Machine_letters.p (ok_Machine_letters T) (hr.mono (by decide)) T.Machine_letters.b .nil pass0 rfl) pe_str) pa_nil))))))))
          (blkOk_by (own := [("_law_value", 9)]) (N := ["_law_pot_here", "_law_held", "_law_one", "_law_other", "_law_many", "_law_turn", "_law_text", "_law_more", "_law_mark", "_law_value"]) (sc := defScope s_law_stands) (by decide +kernel))
          (fun _ _ _ _ _ => pg_name (i := 9) sc_law_stands.nd rfl (by first | exact Or.inl rfl | exact Or.inr rfl)) (fun _ _ _ _ _ => pts_nil)
          (fun _ _ _ _ _ => (pe_cmpR (op_inOwn (FnOkG.of (ok_Desk_contains T)) (hr.mono (by decide)) hG T.Desk_contains.b T.Desk_contains.m) (pv 9) (pv 1) (by rfl)))) pa_nil)))))), ?_⟩
    refine seq_to ?_
    refine or_to (fun H1 => H1 = H) (fun Q' hQ => ?_) (fun H1 e => ?_)
    · exact ⟨_, rfl, d, T.C_Desk, dd, _, _, rfl, hd, T.cl_Desk, T.n_Desk_one, rfl, _, rfl, a0, dx0, _, _, rfl, hxt0, ty_mach T hx, first_own, a0, _, sg, _, _, rfl, hx0, .inl ⟨x, sg, _, _, rfl, hx, true, congrArg V.bl (by simp), false, rfl, hQ _ rfl⟩⟩
    subst e
    refine or_to (fun H2 => H2 = H1) (fun Q' hQ => ?_) (fun H2 e => ?_)
    · exact ⟨_, rfl, d, T.C_Desk, dd, _, _, rfl, hd, T.cl_Desk, T.n_Desk_other, rfl, _, rfl, b0, dy0, _, _, rfl, hyt0, ty_mach T hy, first_own, b0, _, sg, _, _, rfl, hy0, .inl ⟨y, sg, _, _, rfl, hy, true, congrArg V.bl (by simp), false, rfl, hQ _ rfl⟩⟩
    subst e
    refine or_to (fun H3 => H3 = H2) (fun Q' hQ => ?_) (fun H3 e => ?_)
    · refine ⟨_, rfl, d, dd, _, rfl, hd, l, d, sg, one, other, past, rfl, h2.desk, past.length, rfl, sz (by omega), _, rfl, ?_⟩
      exact ⟨rfl, false, congrArg V.bl (by simp), hQ _ rfl⟩
    subst e
    refine if_to (Same H3) (fun Q' hQ => ?_) (fun H4 s4 => ?_)
    · refine ⟨_, rfl, d, T.C_Desk, dd, _, _, rfl, hd, T.cl_Desk, T.n_Desk_one, rfl, a0, dx0, _, rfl, hxt0, a0, sg, _, _, rfl, hx0, fun H5 s5 => ⟨_, rfl, _, rfl, x, dx, _, rfl, s5 _ _ hxt, x, sg, _, _, rfl, hx.same s5, fun H6 s6 => ⟨_, rfl, ?_⟩⟩⟩
      exact ⟨rfl, false, congrArg V.bl (by simp), hQ _ (s5.trans s6)⟩
    have hp4 := hp.same s4
    have ho4 : Off a H3 H4 := Off.of s4
    dsimp only [tNext]
    refine ⟨(3 : Int), rfl, by omega, by omega, ?_⟩
    refine for_it walk_range (fun i σ H' => ∃ g5 g6 g8, σ = [some (.ref a), some (.ref d), some (.ref x), some (.ref y), some (.int (past.length : Int)), g5, g6, none, g8, none] ∧ Pot H' a ∧ Off a H3 H') ⟨none, none, none, rfl, hp4, ho4⟩ (fun _ _ _ _ _ => trivial) (fun i x' σ H5 H6 hi p yy => ?_) (fun σ H5 p => ?_)
    · obtain ⟨g5, g6, g8, rfl, hp5, ho5⟩ := p
      obtain ⟨rfl, rfl⟩ := yy
      have t6 := h2.off ho5 hal hda
      have hx6 := t6.mx.same hide_le
      have hy6 := t6.my.same hide_le
      obtain ⟨dx6, r6, q6, hxt6, _⟩ := id hx6.at_
      have hne := hx.lets.ne
      have hfew := hx.lets.few
      refine ⟨⟨_, rfl⟩, _, rfl, a, 5, rfl, hp5, by decide, by decide, fun H7 m hm hp7 ho7 => ⟨(m : Int), rfl, by omega, by omega, fun D nD => ?_⟩⟩
      have naD := hp7.ne nD
      have hxl : a ≠ x := fun e => by
        obtain ⟨u, v, ea, _⟩ := hp
        rw [e, hxt] at ea
        cases ea
      refine lc_gen2 walk_range (fun H' => Pot H' a ∧ Off a H7 H') (fun i acc => ∃ t : List Nat, acc = t.map (fun c => tx [c]) ∧ t.length = i ∧ ∀ c ∈ t, c ∈ sg) (sz (by omega)) (fun i acc e => by obtain ⟨t, rfl, e, _⟩ := e; rw [List.length_map]; omega) ⟨[], rfl, rfl, fun c hc => by cases hc⟩ ⟨hp7.up naD, Off.of (same_upd nD)⟩ (fun H' acc acc' hG r => ⟨r.1.up naD, r.2.up nD⟩) (fun _ _ => trivial) (fun i x7 H8 H9 acc C N hi r hD ha yy c nn => ?_) (fun H8 xs r hD ha => ?_)
      · obtain ⟨rfl, rfl⟩ := yy
        obtain ⟨t0, rfl, ht0, hts⟩ := ha
        have t9 := h2.off (ho5.trans (ho7.trans r.2)) hal hda
        have hx9 := t9.mx.same hide_le
        obtain ⟨dx9, r9, q9, hxt9, _⟩ := id hx9.at_
        refine ⟨rfl, yes_te ⟨_, rfl, _, rfl, x, dx9, _, rfl, hxt9, x, sg, _, _, rfl, hx9, a, _, rfl, r.1, .inl ⟨sg, rfl, (fun e => by rw [e] at hne; cases hne), by omega, fun H10 ch hc hp10 ho10 => ?_⟩⟩⟩
        refine c _ _ ⟨hp10, r.2.trans ho10⟩ (ho10 _ _ hD naD.symm) ⟨t0 ++ [ch], by rw [List.map_append]; rfl, by rw [List.length_append, ht0]; rfl, fun x hx => ?_⟩
        rcases List.mem_append.mp hx with hx | hx
        · exact hts x hx
        · rw [List.mem_singleton.mp hx]; exact hc
      obtain ⟨t0, rfl, ht0, hts⟩ := ha
      refine ⟨_, D, t0.map fun c => tS [c], rfl, rfl, .inl (.inl (.inl (by rw [hD, List.map_map]; rfl))), ?_, ?_⟩
      · have e1 : ("" : Str).length = 0 := by decide +kernel
        rw [e1, sum_one, List.length_map]
        omega
      rw [join_one]
      obtain ⟨hp8, ho8⟩ := r
      have ho38 := ho5.trans (ho7.trans ho8)
      have t8 := h2.off ho38 hal hda
      have hx8 := t8.mx.same hide_le
      have hy8 := t8.my.same hide_le
      obtain ⟨dx8, r8, q8, hxt8, _⟩ := id hx8.at_
      obtain ⟨dy8, r9, q9, hyt8, _⟩ := id hy8.at_
      have hl8 : t0.length ≤ 1000 := by omega
      refine ⟨_, rfl, x, dx8, _, rfl, hxt8, rfl, _, rfl, x, t0, sg, _, _, rfl, hx8, hl8, hts, fun H9 s9 => ?_⟩
      refine .inr ⟨_, rfl, 2, _, rfl, rfl, by show CMul 2 (if _ then (1 : Int) else 0); unfold CMul; split <;> decide, ?_⟩
      refine ⟨_, rfl, y, dy8, _, rfl, s9 _ _ hyt8, rfl, _, rfl, y, t0, sg, _, _, rfl, hy8.same s9, hl8, hts, fun H10 s10 => ?_⟩
      refine .inr ⟨_, rfl, _, _, rfl, rfl, ?_⟩
      have s810 := s9.trans s10
      have t10 := t8.same s810
      obtain ⟨dd10, a10, b10, p10, ts10, hd10, _⟩ := id t10.desk.ex
      dsimp only [gName]
      refine or_to (Same H10) (fun Q' hQ => ?_) (fun H11 s11 => ?_)
      · refine ⟨_, rfl, _, rfl, d, dd10, _, rfl, hd10, l, d, _, .str (tS t0), sg, one, other, past, rfl, t10.desk, .data (.str _), hl8, .inl ⟨t0, rfl, hts, fun H11 s11 => ?_⟩⟩
        refine ⟨by show 4 ≤ sizeLine; decide, fun L0 nL => ?_⟩
        have sL := same_upd (o := .lst [.str "none", .str "other", .str "one", .str "both"]) nL
        refine ⟨_, rfl, L0, _, _, _, rfl, rfl, .inl (.inl upd_same), mark_at _ _, rfl, false, congrArg V.bl (ne_self _), hQ _ (s11.trans sL)⟩
      · have t11 := t10.same s11
        obtain ⟨dd11, a11, b11, p11, ts11, hd11, _⟩ := id t11.desk.ex
        refine if_to (Same H11) (fun Q' hQ => ?_) (fun H12 s12 => ?_)
        · refine ⟨_, rfl, _, rfl, d, dd11, _, rfl, hd11, l, d, _, sg, one, other, past, rfl, t11.desk, .inl ⟨t0, rfl, hl8, hts, fun H12 s12 => ⟨_, rfl, ?_⟩⟩⟩
          refine ⟨_, rfl, _, _, rfl, rfl, rfl, false, ?_, hQ _ s12⟩
          exact congrArg V.bl (mark_ne _ _)
        · have s912 := s810.trans (s11.trans s12)
          exact ⟨_, _, _, rfl, hp8.same s912, ho38.trans (Off.of s912)⟩
    · obtain ⟨g5, g6, g8, rfl, hp5, ho5⟩ := p
      have t5 := h2.off ho5 hal hda
      have hx5 := t5.mx.same hide_le
      obtain ⟨dx5, r5, q5, hxt5, _⟩ := id hx5.at_
      have hfew := hx.lets.few
      refine ⟨_, rfl, by show 1 ≤ sizeLine; decide, fun L0 nL => ?_⟩
      have sL := same_upd (o := .lst [.str ""]) nL
      have hL0 := upd_same (H := H5) (a := L0) (o := .lst [.str ""])
      generalize upd H5 L0 (.lst [.str ""]) = H6 at *
      have t6 := t5.same sL
      have hx6 := t6.mx.same hide_le
      obtain ⟨dx6, r6, q6, hxt6, _⟩ := id hx6.at_
      refine ⟨_, rfl, x, dx6, _, rfl, hxt6, x, sg, _, _, rfl, hx6, sg, [126], rfl, rfl, by rw [sizeLine_eq]; show sg.length + 1 ≤ _; omega, by show 6 ≤ sizeLine; decide, fun L1 nL1 => ?_⟩
      have sL1 := same_upd (o := .lst [.non, .int 0, .ref x, .str "A", .ref L0, tx (sg ++ [126])]) nL1
      have hL1 := upd_same (H := H6) (a := L1) (o := .lst [.non, .int 0, .ref x, .str "A", .ref L0, tx (sg ++ [126])])
      refine ⟨_, rfl, ⟨_, .inl (.inl hL1)⟩, fun D nD => ?_⟩
      generalize upd H6 L1 (.lst [.non, .int 0, .ref x, .str "A", .ref L0, tx (sg ++ [126])]) = H7 at *
      have t7 := t6.same sL1
      have az := hx.lets.az
      refine lc_gen (walk_list (xs := [.non, .int 0, .ref x, .str "A", .ref L0, tx (sg ++ [126])])) (Same H7) (fun i acc => acc = (List.replicate i false).map V.bl) (sz (by show 6 ≤ 100000; decide)) (fun i acc e => by rw [e, List.length_map, List.length_replicate]; exact Nat.le_refl _) rfl (same_upd nD) (fun _ _ h => same_up h nD) (fun _ h => .inl (.inl (h _ _ hL1))) (fun i z H8 H9 acc C N hi rs hD ha yy c nn => ?_) (fun H8 ys rs hD ha => ?_)
      · obtain ⟨rfl, yy⟩ := yy
        have t9 := t7.same rs
        obtain ⟨dd9, a9, b9, p9, ts9, hd9, _⟩ := id t9.desk.ex
        refine ⟨rfl, yes_te ⟨_, rfl, _, rfl, d, dd9, _, rfl, hd9, l, d, z, sg, one, other, past, rfl, t9.desk, ?_⟩⟩
        have fin : ∀ H10, Same H9 H10 → ∃ b, V.bl false = .bl b ∧ C (.bl b) H10 := fun H10 s10 => ⟨false, rfl, c _ _ (rs.trans s10) (s10 _ _ hD) (by rw [ha, List.replicate_succ', List.map_append]; rfl)⟩
        match i, yy with
        | 0, yy =>
          cases yy
          exact .inr (.inr ⟨_, tyx_dpD (.data .non), kit_ty (kb_str (d := .none) (fun _ z => by cases z)), fin _ (Same.refl _)⟩)
        | 1, yy =>
          cases yy
          exact .inr (.inr ⟨_, tyx_dpD (.data (.int 0)), kit_ty (kb_str (d := .int 0) (fun _ z => by cases z)), fin _ (Same.refl _)⟩)
        | 2, yy =>
          cases yy
          exact .inr (.inr ⟨_, ty_mach T (t9.mx.same hide_le), kit_str T, fin _ (Same.refl _)⟩)
        | 3, yy =>
          cases yy
          refine .inr (.inl ⟨[65], rfl, by decide, ?_, fin⟩)
          rw [List.all_cons, List.all_nil, Bool.and_true]
          exact decide_eq_false fun z => by have := az 65 z; omega
        | 4, yy =>
          cases yy
          exact .inr (.inr ⟨_, tyx_dpD (.data (.lst (.inl (.inl (rs _ _ (sL1 _ _ hL0)))) (.cons (.str _) .nil))), kit_ty (kb_str (d := .list [.str ""]) (fun _ z => by cases z)), fin _ (Same.refl _)⟩)
        | 5, yy =>
          cases yy
          refine .inr (.inl ⟨sg ++ [126], rfl, by rw [List.length_append]; show sg.length + 1 ≤ _; omega, ?_, fin⟩)
          rw [List.all_append, List.all_cons, List.all_nil, Bool.and_true, decide_eq_false (fun z => by have := az 126 z; omega : ¬ 126 ∈ sg), Bool.and_false]
        | i + 6, yy => cases yy
      · subst ha
        have s58 := sL.trans (sL1.trans rs)
        exact ⟨D, List.replicate 6 false, rfl, .inl (.inl hD), _, rfl, q _ (hp5.same s58) (ho5.trans (Off.of s58))⟩
end
end Lw
namespace Lw
open PySem PySem.Spec PyProof.Rows L3 NdefX
open L2 hiding del del_same del_ne
section
variable {w : World} {K : PySem.W.Frag} {mg : Str → Option Value} {base : Heap} {Pt : Nat → Addr} {c0 c1 c2 : Addr}
def xyz : List Nat := [120, 121, 122]
/-- what the law keeps while it asks -/
structure Ask (T : All K mg) (Pt : Nat → Addr) (l : List Addr) (H : Hp) (a d x y : Addr) (sg : List Nat) (one other : MV) (past : List (MV × MV)) : Prop where
  pot : Pot H a
  al : a ∈ l
  dl : d ∈ l
  ne : d ≠ a
  loose : LooseL l H
  two : Two T l H d x y sg one other past
  few : past.length ≤ 1000
  tabs : TabsN (NTs Pt) H
theorem Ask.ext {T : All K mg} {l : List Addr} {H H' : Hp} {a d x y : Addr} {sg : List Nat} {one other : MV} {past : List (MV × MV)} (h : Ask T Pt l H a d x y sg one other past) (e : LamX.ExtN H H') (t : TabsN (NTs Pt) H') : Ask T Pt l H' a d x y sg one other past := by
  obtain ⟨dd, a0, b0, p0, ts, hd, _⟩ := id h.two.desk.ex
  obtain ⟨u, v, ea, r⟩ := id h.pot
  refine ⟨⟨u, v, e _ _ ea (fun ps z => by cases z), r⟩, h.al, h.dl, h.ne, fun b m => ?_, h.two.keep (.ext e) (by rw [e _ _ hd (fun ps z => by cases z), hd]), h.few, t⟩
  rcases h.loose b m with ⟨xs, z⟩ | ⟨C, dx, fs, z⟩
  · exact .inl ⟨xs, e _ _ z (fun ps z => by cases z)⟩
  · exact .inr ⟨C, dx, fs, e _ _ z (fun ps z => by cases z)⟩
theorem tabs_off {TL : List NTab} {a : Addr} {H H' : Hp} (t : TabsN TL H) (hp : Pot H a) (o : Off a H H') : TabsN TL H' := by
  obtain ⟨u, v, ea, _⟩ := hp
  intro p hpm
  obtain ⟨ps, h1, h2, h3⟩ := t p hpm
  refine ⟨ps, o _ _ h1 fun z => ?_, h2, fun pos cv hc => ?_⟩
  · rw [z, ea] at h1
    cases h1
  · obtain ⟨c, e1, e2⟩ := h3 pos cv hc
    refine ⟨c, e1, o _ _ e2 fun z => ?_⟩
    rw [z, ea] at e2
    cases e2
theorem Pot.loose {H : Hp} {a : Addr} (h : Pot H a) : Loose H a := by
  obtain ⟨u, v, e, _⟩ := h
  exact .inl ⟨_, e⟩
theorem Ask.off {T : All K mg} {l : List Addr} {H H' : Hp} {a d x y : Addr} {sg : List Nat} {one other : MV} {past : List (MV × MV)} (h : Ask T Pt l H a d x y sg one other past) (hp : Pot H' a) (o : Off a H H') : Ask T Pt l H' a d x y sg one other past :=
  ⟨hp, h.al, h.dl, h.ne, h.loose.kp (o.kp (l := [a]) List.mem_cons_self) (fun b m => by rw [List.mem_singleton.mp m]; exact hp.loose), h.two.off o h.al h.ne, h.few, tabs_off h.tabs h.pot o⟩
/-- an error that is heard, and what it is compared with -/
theorem ask {T : All K mg} (b : Bool) {rel : R2} (hrel : ∀ (l r : Addr) (L : List V) (H : Hp) (Q : VK), H l = some (.lst L) → H r = some (.lst L) → (∀ v ∈ L, OkE v) → (∀ H', Same H H' → Q (.bl b) H') → rel (.ref l) (.ref r) H Q)
    {tl : XK → TE} {tb : TE} {σ : L2.St} {H : Hp} {Q : VK} (o : ErrO) (hT : TabsN (NTs Pt) H) (ok : ∀ v ∈ outL o, OkE v)
    (hrun : ∀ H1 (E : XK) Qv, LamX.ExtN H H1 → TabsN (NTs Pt) H1 → (∀ H2, Same H1 H2 → ∀ cls dd, Raises T H2 cls dd o → E cls dd H2) → tl E σ H1 Qv)
    (hb : ∀ H2 (Qb : VK), LamX.ExtN H H2 → (∀ H3 r, Same H2 H3 → H3 r = some (.lst (outL o)) → Qb (.ref r) H3) → tb σ H2 Qb)
    (k : ∀ H3, LamX.ExtN H H3 → TabsN (NTs Pt) H3 → Q (.bl b) H3) : tOp rel (tLamN (NTs Pt) (THeard T) tl) tb σ H Q := by
  refine ⟨hT, fun H1 e1 T1 E Qv hE hQ => hrun H1 E Qv e1 T1 fun H2 s2 cls dd hr => hE H2 cls dd o hr fun p np => ?_⟩
  have s3 := s2.trans (same_upd (o := .lst (outL o)) np)
  have hp := upd_same (H := H2) (a := p) (o := .lst (outL o))
  generalize upd H2 p (.lst (outL o)) = H3 at *
  refine hb H3 _ (e1.trans (LamX.ExtN.of s3)) fun H4 r s4 hr => ?_
  refine hrel p r _ H4 _ (s4 _ _ hp) hr ok fun H5 s5 => ?_
  have s15 := s3.trans (s4.trans s5)
  exact k H5 (e1.trans (LamX.ExtN.of s15)) (T1.ext s15)
theorem rz_of {T : All K mg} {i : Nat} {C : Addr} {v : V} {H1 : Hp} {E : XK} (h : ∀ H2, Same H1 H2 → ∀ cls dd, Raises T H2 cls dd (.ref i v) → E cls dd H2) (hi : i < 5) (hC : (Cs T)[i]? = some C) : Rz C "value" v H1 E :=
  fun H' e s he => h H' s _ _ ⟨hi, C, e, hC, rfl, rfl, he⟩
theorem oz_of {T : All K mg} {x y : List Nat} {H1 : Hp} {E : XK} (h : ∀ H2, Same H1 H2 → ∀ cls dd, Raises T H2 cls dd (.letters x y) → E cls dd H2) : Oz T.C_OtherLetters x y H1 E :=
  fun H' e s he => h H' s _ _ ⟨e, rfl, rfl, he⟩
theorem ok_ref {i : Nat} {v : V} (h : OkE v) : ∀ u ∈ outL (.ref i v), OkE u := fun u hu => by
  simp only [outL, List.mem_cons, List.not_mem_nil, or_false] at hu
  rcases hu with rfl | rfl | rfl
  · exact .inl rfl
  · exact h
  · exact .inl rfl
theorem ok_letters {x y : List Nat} : ∀ u ∈ outL (.letters x y), OkE u := fun u hu => by
  simp only [outL, List.mem_cons, List.not_mem_nil, or_false] at hu
  rcases hu with rfl | rfl | rfl | rfl <;> exact .inl rfl
/-- a value of any kind -/
structure AnyV (K : PySem.W.Frag) (H : Hp) (v : V) (d : PyData) : Prop where
  dp : DpD K H v d
  ok : OkE v
  short : shortD d
theorem AnyV.ext {H H' : Hp} {v : V} {d : PyData} (h : AnyV K H v d) (e : LamX.ExtN H H') : AnyV K H' v d := ⟨dpD_ext e h.dp, h.ok, h.short⟩
theorem AnyV.non {H : Hp} : AnyV K H .non .none := ⟨.data .non, .inl rfl, trivial⟩
theorem AnyV.int {H : Hp} (i : Int) : AnyV K H (.int i) (.int i) := ⟨.data (.int i), .inl rfl, trivial⟩
theorem AnyV.bl {H : Hp} (b : Bool) : AnyV K H (.bl b) (.bool b) := ⟨.data (.bl b), .inl rfl, trivial⟩
theorem AnyV.str {H : Hp} (x : Str) (h : x.cps.toList.length ≤ 1000) : AnyV K H (.str x) (.str x) := ⟨.data (.str x), .inl rfl, h⟩
theorem AnyV.lst1 {H : Hp} {a : Addr} {v : V} {d : PyData} (h : H a = some (.lst [v])) (hv : Dp K H v d) : AnyV K H (.ref a) (.list [d]) := ⟨.data (.lst (.inl (.inl h)) (.cons hv .nil)), .inr ⟨_, rfl⟩, trivial⟩
theorem lets_xyz : Lets xyz := ⟨by decide, by decide, by decide, by decide⟩
theorem good_xyz : M14.Good xyz.length [[0, 0, 0]] [true] := by
  refine ⟨⟨by decide, by decide, by decide, fun p hp g hg => ?_, rfl⟩, fun p hp => ?_⟩
  · have hp0 : p = 0 := by have : p < 1 := hp; omega
    subst hp0
    have : g ∈ ([0, 0, 0] : List Nat) := hg
    simp at this
    subst this
    decide
  · have hp0 : p = 0 := by have : p < 1 := hp; omega
    subst hp0
    exact M14.met_self _ _
theorem place_out {n : Nat} {i : Int} (h : ¬ (0 ≤ i ∧ i < (n : Int))) : isPlaceD n (.int i) = false := decide_eq_false h
theorem place_0 {n : Nat} (h : 0 < n) : isPlaceD n (.int 0) = true := decide_eq_true (by omega)
theorem letter_a {sg : List Nat} (h : 97 ∈ sg) : isLetterD sg (.str "a") = true := isLetter_one (c := 97) h
theorem letter_t {sg : List Nat} (az : ∀ c ∈ sg, 97 ≤ c ∧ c ≤ 122) : isLetterD sg (.str "~") = false := by
  show (([126].all fun c => decide (c ∈ sg)) && decide ([126].length = 1)) = false
  rw [List.all_cons, decide_eq_false (fun z => by have := az 126 z; omega : ¬ 126 ∈ sg)]
  rfl
theorem over_c {sg : List Nat} (az : ∀ c ∈ sg, 97 ≤ c ∧ c ≤ 122) (h : (65 : Nat) < 97) : overD sg (.str "A") = false := by
  show ([65].all fun c => decide (c ∈ sg)) = false
  rw [List.all_cons, decide_eq_false (fun z => by have := az 65 z; omega : ¬ 65 ∈ sg)]
  rfl
theorem over_sp {sg : List Nat} (az : ∀ c ∈ sg, 97 ≤ c ∧ c ≤ 122) : overD sg (.str "a ") = false := by
  show ([97, 32].all fun c => decide (c ∈ sg)) = false
  rw [List.all_cons, List.all_cons, decide_eq_false (fun z => by have := az 32 z; omega : ¬ 32 ∈ sg), Bool.false_and, Bool.and_false]
theorem over_app {sg : List Nat} (az : ∀ c ∈ sg, 97 ≤ c ∧ c ≤ 122) : overD sg (.str (tS (sg ++ [126]))) = false := by
  show ((sg ++ [126]).all fun c => decide (c ∈ sg)) = false
  rw [List.all_append, List.all_cons, decide_eq_false (fun z => by have := az 126 z; omega : ¬ 126 ∈ sg), Bool.false_and, Bool.and_false]
theorem short_a : shortD (.str "a") := by show ("a" : Str).cps.toList.length ≤ 1000; decide
theorem short_t : shortD (.str "~") := by show ("~" : Str).cps.toList.length ≤ 1000; decide
def spRefs (T : All K mg) (Pt : Nat → Addr) : Sp := fun vs H Q _ => ∃ (a d x y : Addr) (l : List Addr) (sg : List Nat) (one other : MV) (past : List (MV × MV)), vs = [.ref a, .ref d, .ref x, .ref y] ∧ Ask T Pt l H a d x y sg one other past ∧ 97 ∈ sg ∧ sg ≠ xyz ∧ one.1.length ≤ 39 ∧
  ∀ H', Pot H' a → Kp [a] H H' → TabsN (NTs Pt) H' → Q (.bl true) H'
theorem ok_law_refusals_right (T : All K mg) (hcd0 : T.d_law_refusals_right.code = .ref c0) (TB0 : LamX.TabB base mg c0 (Pt 0)) (hD : Dst Pt) : FnOkG PW w K mg base CX0 17 T.f_law_refusals_right T.d_law_refusals_right ["_law_pot_here", "_law_held", "_law_one", "_law_other"] (spRefs T Pt) := by
  refine okC T.law_refusals_right.F sc_law_refusals_right (fun vs H Q E h => ?_) (fun A outer s H vs Q E hr hG h => ?_)
  · obtain ⟨a, d, x, y, l, sg, one, other, past, rfl, _⟩ := h
    rfl
  · obtain ⟨a, d, x, y, l, sg, one, other, past, rfl, h2, h97, hxyz, h39, q⟩ := h
    refine ⟨_, pss_cons (ps_set (i := 4) sc_law_refusals_right.nd rfl (by first | exact Or.inl rfl | exact Or.inr rfl) (pe_call (ok_law_pick T) (hr.mono (by decide)) (by rfl) T.law_pick.g T.law_pick.F.kp T.law_pick.b .nil pass0 (pa_cons (pv 0) (pa_cons (pe_lst (pa_cons pe_non (pa_cons (pe_un un_neg pe_int) (pa_cons pe_int (pa_cons pe_bl (pa_cons pe_str (pa_cons (pe_lst (pa_cons pe_int pa_nil)) (pa_cons (pe_callB (cr_lenOwn (FnOkG.of (ok_Machine_len T)) (hr.mono (by decide)) hG T.Machine_len.b T.Machine_len.m) (by rfl) T.b_len PySem.boot_len (pa_cons (pv 2) pa_nil)) pa_nil)))))))) pa_nil))))
      (pss_cons (ps_set (i := 5) sc_law_refusals_right.nd rfl (by first | exact Or.inl rfl | exact Or.inr rfl) (pe_call (ok_law_pick T) (hr.mono (by decide)) (by rfl) T.law_pick.g T.law_pick.F.kp T.law_pick.b .nil pass0 (pa_cons (pv 0) (pa_cons (pe_lst (pa_cons pe_non (pa_cons pe_str (pa_cons pe_str (pa_cons pe_int (pa_cons pe_str (pa_cons (pe_lst (pa_cons pe_str pa_nil)) pa_nil))))))) pa_nil))))
      (pss_cons (ps_set (i := 6) sc_law_refusals_right.nd rfl (by first | exact Or.inl rfl | exact Or.inr rfl) (pe_make ⟨T.mk_Machine, T.Machine_init.m.at_, T.Machine_init.m.fn, T.kp_Machine⟩ (ok_Machine_init T) (hr.mono (by decide)) (by rfl) T.g_Machine T.Machine_init.b .nil pass0 (pa_cons pe_str (pa_cons (pe_lst (pa_cons (pe_lst (pa_cons pe_int (pa_cons pe_int (pa_cons pe_int pa_nil)))) pa_nil)) (pa_cons (pe_lst (pa_cons pe_bl pa_nil)) pa_nil)))))
      (pss_cons (ps_set (i := 7) sc_law_refusals_right.nd rfl (by first | exact Or.inl rfl | exact Or.inr rfl) (pe_lst (pa_cons pe_str (pa_cons (pv 4) (pa_cons pe_bl pa_nil)))))
      (pss_cons (ps_if (pt_cmpR (op_neSame (u64 hr)) (pe_lamSN (T := NTs Pt) (k := 12) (by rfl) T.law_heard.g T.law_heard.F T.law_heard.b sc_law_heard rfl (by first | exact Or.inl rfl | exact Or.inr (Or.inl rfl)) (heard_gives T rfl rfl) TB0 hcd0 ntm0 (nt_u0 hD) (hr.mono (by decide)) (LamX.lamS_by (sc := defScope s_law_refusals_right) (by decide +kernel)) rfl (fun _ _ _ _ _ => rfl)
        (fun A outer s H E f c2 hr => (pe_meth (pv 1) T.cl_Desk T.Desk_turn.m (ok_Desk_turn T) (hr.mono (by decide)) T.Desk_turn.b .nil (passes_call (takes_of rfl rfl rfl rfl) (fun _ _ _ _ h => h)) (pa_cons pe_str (pa_cons (pv 4) pa_nil))))) (pv 7) (nomark _)) (pss_one (ps_ret pe_bl)) pss_nil)
      (pss_cons (ps_if (pt_cmpR (op_neSame (u64 hr)) (pe_lamSN (T := NTs Pt) (k := 12) (by rfl) T.law_heard.g T.law_heard.F T.law_heard.b sc_law_heard rfl (by first | exact Or.inl rfl | exact Or.inr (Or.inl rfl)) (heard_gives T rfl rfl) TB0 hcd0 ntm0 (nt_u0 hD) (hr.mono (by decide)) (LamX.lamS_by (sc := defScope s_law_refusals_right) (by decide +kernel)) rfl (fun _ _ _ _ _ => rfl)
        (fun A outer s H E f c2 hr => (pe_meth (pv 1) T.cl_Desk T.Desk_lead.m (ok_Desk_lead T) (hr.mono (by decide)) T.Desk_lead.b .nil (passes_call (takes_of rfl rfl rfl rfl) (fun _ _ _ _ h => h)) (pa_cons pe_str (pa_cons (pv 4) (pa_cons pe_str (pa_cons pe_int pa_nil))))))) (pv 7) (nomark _)) (pss_one (ps_ret pe_bl)) pss_nil)
      (pss_cons (ps_if (pt_cmpR (op_neSame (u64 hr)) (pe_lamSN (T := NTs Pt) (k := 12) (by rfl) T.law_heard.g T.law_heard.F T.law_heard.b sc_law_heard rfl (by first | exact Or.inl rfl | exact Or.inr (Or.inl rfl)) (heard_gives T rfl rfl) TB0 hcd0 ntm0 (nt_u0 hD) (hr.mono (by decide)) (LamX.lamS_by (sc := defScope s_law_refusals_right) (by decide +kernel)) rfl (fun _ _ _ _ _ => rfl)
        (fun A outer s H E f c2 hr => (pe_methK (pv 1) T.cl_Desk T.Desk_lead.m (ok_Desk_lead T) (hr.mono (by decide)) (kbm4 (a := "which") (b := "place") (c := "letter") (d := "goal") T.Desk_lead.F (fun _ _ _ _ _ _ _ _ _ _ _ => rfl)) (passes_call (takes_of rfl rfl rfl rfl) (fun _ _ _ _ h => h)) (pk_cons pe_str (pk_cons (pv 4) (pk_cons pe_int (pk_cons pe_str pk_nil))))))) (pv 7) (nomark _)) (pss_one (ps_ret pe_bl)) pss_nil)
      (pss_cons (ps_if (pt_cmpR (op_neSame (u64 hr)) (pe_lamSN (T := NTs Pt) (k := 12) (by rfl) T.law_heard.g T.law_heard.F T.law_heard.b sc_law_heard rfl (by first | exact Or.inl rfl | exact Or.inr (Or.inl rfl)) (heard_gives T rfl rfl) TB0 hcd0 ntm0 (nt_u0 hD) (hr.mono (by decide)) (LamX.lamS_by (sc := defScope s_law_refusals_right) (by decide +kernel)) rfl (fun _ _ _ _ _ => rfl)
        (fun A outer s H E f c2 hr => (pe_meth (pv 1) T.cl_Desk T.Desk_turn.m (ok_Desk_turn T) (hr.mono (by decide)) T.Desk_turn.b .nil (passes_call (takes_of rfl rfl rfl rfl) (fun _ _ _ _ h => h)) (pa_cons (pv 5) (pa_cons pe_int pa_nil))))) (pe_lst (pa_cons pe_str (pa_cons (pv 5) (pa_cons pe_bl pa_nil)))) (nomark _)) (pss_one (ps_ret pe_bl)) pss_nil)
      (pss_cons (ps_if (pt_cmpR (op_neSame (u64 hr)) (pe_lamSN (T := NTs Pt) (k := 12) (by rfl) T.law_heard.g T.law_heard.F T.law_heard.b sc_law_heard rfl (by first | exact Or.inl rfl | exact Or.inr (Or.inl rfl)) (heard_gives T rfl rfl) TB0 hcd0 ntm0 (nt_u0 hD) (hr.mono (by decide)) (LamX.lamS_by (sc := defScope s_law_refusals_right) (by decide +kernel)) rfl (fun _ _ _ _ _ => rfl)
        (fun A outer s H E f c2 hr => (pe_meth (pv 1) T.cl_Desk T.Desk_lead.m (ok_Desk_lead T) (hr.mono (by decide)) T.Desk_lead.b .nil (passes_call (takes_of rfl rfl rfl rfl) (fun _ _ _ _ h => h)) (pa_cons (pv 5) (pa_cons pe_non (pa_cons pe_non (pa_cons pe_non pa_nil))))))) (pe_lst (pa_cons pe_str (pa_cons (pv 5) (pa_cons pe_bl pa_nil)))) (nomark _)) (pss_one (ps_ret pe_bl)) pss_nil)
      (pss_cons (ps_if (pt_cmpR (op_neSame (u64 hr)) (pe_lamSN (T := NTs Pt) (k := 12) (by rfl) T.law_heard.g T.law_heard.F T.law_heard.b sc_law_heard rfl (by first | exact Or.inl rfl | exact Or.inr (Or.inl rfl)) (heard_gives T rfl rfl) TB0 hcd0 ntm0 (nt_u0 hD) (hr.mono (by decide)) (LamX.lamS_by (sc := defScope s_law_refusals_right) (by decide +kernel)) rfl (fun _ _ _ _ _ => rfl)
        (fun A outer s H E f c2 hr => (pe_meth (pv 1) T.cl_Desk T.Desk_lead.m (ok_Desk_lead T) (hr.mono (by decide)) T.Desk_lead.b .nil (passes_call (takes_of rfl rfl rfl rfl) (fun _ _ _ _ h => h)) (pa_cons pe_str (pa_cons pe_int (pa_cons pe_str (pa_cons pe_int pa_nil))))))) (pe_lst (pa_cons pe_str (pa_cons pe_str (pa_cons pe_bl pa_nil)))) (nomark _)) (pss_one (ps_ret pe_bl)) pss_nil)
      (pss_cons (ps_for PassesOwn.never rfl (pi_list (pe_lst (pa_cons pe_non (pa_cons pe_int (pa_cons pe_str (pa_cons pe_str (pa_cons (pe_lst (pa_cons pe_str pa_nil)) (pa_cons (pe_op op_addT (pe_prop (pv 2) T.cl_Machine T.Machine_letters.p (ok_Machine_letters T) (hr.mono (by decide)) T.Machine_letters.b .nil pass0 rfl) pe_str) pa_nil)))))))) (pg_name (i := 8) sc_law_refusals_right.nd rfl (by first | exact Or.inl rfl | exact Or.inr rfl))
        (pss_one (ps_if (pt_cmpR (op_neSame (u64 hr)) (pe_lamSN (T := NTs Pt) (k := 12) (by rfl) T.law_heard.g T.law_heard.F T.law_heard.b sc_law_heard rfl (by first | exact Or.inl rfl | exact Or.inr (Or.inl rfl)) (heard_gives T rfl rfl) TB0 hcd0 ntm0 (nt_u0 hD) (hr.mono (by decide)) (LamX.lamS_by (sc := defScope s_law_refusals_right) (by decide +kernel)) rfl (fun _ _ _ _ _ => rfl)
        (fun A outer s H E f c2 hr => (pe_ixOwn (ok_Desk_getitem T) (hr.mono (by decide)) T.Desk_getitem.b T.Desk_getitem.m T.Desk_getitem.F (passes_call (takes_of rfl rfl rfl rfl) (fun _ _ _ _ h => h)) (pv 1) (pv 8) (fun _ _ => rfl)))) (pe_lst (pa_cons pe_str (pa_cons (pv 8) (pa_cons pe_bl pa_nil)))) (nomark _)) (pss_one (ps_ret pe_bl)) pss_nil)))
      (pss_cons (ps_for PassesOwn.never rfl (pi_list (pe_lst (pa_cons pe_non (pa_cons pe_str (pa_cons pe_int (pa_cons (pe_lst (pa_cons (pv 2) pa_nil)) pa_nil)))))) (pg_name (i := 8) sc_law_refusals_right.nd rfl (by first | exact Or.inl rfl | exact Or.inr rfl))
        (pss_cons (ps_if (pt_cmpR (op_neSame (u64 hr)) (pe_lamSN (T := NTs Pt) (k := 12) (by rfl) T.law_heard.g T.law_heard.F T.law_heard.b sc_law_heard rfl (by first | exact Or.inl rfl | exact Or.inr (Or.inl rfl)) (heard_gives T rfl rfl) TB0 hcd0 ntm0 (nt_u0 hD) (hr.mono (by decide)) (LamX.lamS_by (sc := defScope s_law_refusals_right) (by decide +kernel)) rfl (fun _ _ _ _ _ => rfl)
        (fun A outer s H E f c2 hr => (pe_call (ok_law_joined T) (hr.mono (by decide)) (by rfl) T.law_joined.g T.law_joined.F.kp T.law_joined.b .nil (passes_call (takes_of rfl rfl rfl rfl) (fun _ _ _ _ h => h)) (pa_cons (pv 1) (pa_cons (pv 8) pa_nil))))) (pe_lst (pa_cons pe_str (pa_cons (pv 8) (pa_cons pe_bl pa_nil)))) (nomark _)) (pss_one (ps_ret pe_bl)) pss_nil)
      (pss_one (ps_if (pt_cmpR (op_neSame (u64 hr)) (pe_lamSN (T := NTs Pt) (k := 12) (by rfl) T.law_heard.g T.law_heard.F T.law_heard.b sc_law_heard rfl (by first | exact Or.inl rfl | exact Or.inr (Or.inl rfl)) (heard_gives T rfl rfl) TB0 hcd0 ntm0 (nt_u0 hD) (hr.mono (by decide)) (LamX.lamS_by (sc := defScope s_law_refusals_right) (by decide +kernel)) rfl (fun _ _ _ _ _ => rfl)
        (fun A outer s H E f c2 hr => (pe_call (ok_law_cut T) (hr.mono (by decide)) (by rfl) T.law_cut.g T.law_cut.F.kp T.law_cut.b .nil (passes_call (takes_of rfl rfl rfl rfl) (fun _ _ _ _ h => h)) (pa_cons (pv 1) (pa_cons (pv 8) pa_nil))))) (pe_lst (pa_cons pe_str (pa_cons (pv 8) (pa_cons pe_bl pa_nil)))) (nomark _)) (pss_one (ps_ret pe_bl)) pss_nil))))
      (pss_cons (ps_if (pt_cmpR (op_neSame (u64 hr)) (pe_lamSN (T := NTs Pt) (k := 12) (by rfl) T.law_heard.g T.law_heard.F T.law_heard.b sc_law_heard rfl (by first | exact Or.inl rfl | exact Or.inr (Or.inl rfl)) (heard_gives T rfl rfl) TB0 hcd0 ntm0 (nt_u0 hD) (hr.mono (by decide)) (LamX.lamS_by (sc := defScope s_law_refusals_right) (by decide +kernel)) rfl (fun _ _ _ _ _ => rfl)
        (fun A outer s H E f c2 hr => (pe_call (ok_law_joined T) (hr.mono (by decide)) (by rfl) T.law_joined.g T.law_joined.F.kp T.law_joined.b .nil (passes_call (takes_of rfl rfl rfl rfl) (fun _ _ _ _ h => h)) (pa_cons (pv 1) (pa_cons (pv 6) pa_nil))))) (pe_lst (pa_cons pe_str (pa_cons (pe_prop (pv 2) T.cl_Machine T.Machine_letters.p (ok_Machine_letters T) (hr.mono (by decide)) T.Machine_letters.b .nil pass0 rfl) (pa_cons pe_str (pa_cons pe_bl pa_nil))))) (nomark _)) (pss_one (ps_ret pe_bl)) pss_nil)
      (pss_one (ps_ret (pe_cmpR (op_eqSame (u64 hr)) (pe_lamSN (T := NTs Pt) (k := 12) (by rfl) T.law_heard.g T.law_heard.F T.law_heard.b sc_law_heard rfl (by first | exact Or.inl rfl | exact Or.inr (Or.inl rfl)) (heard_gives T rfl rfl) TB0 hcd0 ntm0 (nt_u0 hD) (hr.mono (by decide)) (LamX.lamS_by (sc := defScope s_law_refusals_right) (by decide +kernel)) rfl (fun _ _ _ _ _ => rfl)
        (fun A outer s H E f c2 hr => (pe_call (ok_law_cut T) (hr.mono (by decide)) (by rfl) T.law_cut.g T.law_cut.F.kp T.law_cut.b .nil (passes_call (takes_of rfl rfl rfl rfl) (fun _ _ _ _ h => h)) (pa_cons (pv 1) (pa_cons (pv 6) pa_nil))))) (pe_lst (pa_cons pe_str (pa_cons (pe_prop (pv 2) T.cl_Machine T.Machine_letters.p (ok_Machine_letters T) (hr.mono (by decide)) T.Machine_letters.b .nil pass0 rfl) (pa_cons pe_str (pa_cons pe_bl pa_nil))))) (by rfl)))))))))))))))), ?_⟩
    try dsimp only [cxOf]
    have hx := h2.two.mx.same hide_le
    obtain ⟨dx, r1, q1, hxt, _⟩ := id hx.at_
    have hne := hx.good.ne
    refine ⟨_, rfl, 1, rfl, by show 1 ≤ sizeLine; decide, fun L0 n0 => ?_⟩
    have s0 := same_upd (o := .lst [.int 0]) n0
    have hL0 := upd_same (H := H) (a := L0) (o := .lst [.int 0])
    generalize upd H L0 (.lst [.int 0]) = H0 at *
    refine ⟨_, rfl, x, dx, _, rfl, s0 _ _ hxt, x, sg, _, _, rfl, hx.same s0, one.1.length, rfl, sz (by omega), by show 7 ≤ sizeLine; decide, fun L1 n1 => ?_⟩
    have s1 := same_upd (o := .lst [.non, .int (-1), .int 40, .bl true, .str "0", .ref L0, .int (one.1.length : Int)]) n1
    have hL1 := upd_same (H := H0) (a := L1) (o := .lst [.non, .int (-1), .int 40, .bl true, .str "0", .ref L0, .int (one.1.length : Int)])
    generalize upd H0 L1 (.lst [.non, .int (-1), .int 40, .bl true, .str "0", .ref L0, .int (one.1.length : Int)]) = H1 at *
    have s01 := s0.trans s1
    have hp1 := h2.pot.same s01
    have hL0a : L0 ≠ a := fun e => h2.pot.some (by rw [← e]; exact n0)
    have hL1a : L1 ≠ a := fun e => (h2.pot.same s0).some (by rw [← e]; exact n1)
    refine ⟨a, _, rfl, hp1, .inr ⟨L1, _, rfl, hL1a, .inl (.inl hL1), by simp, by show 7 ≤ 1000; decide, fun H2 odd hodd hp2 ho2 => ?_⟩⟩
    have hL02 := ho2 _ _ (s1 _ _ hL0) hL0a
    refine ⟨_, rfl, by show 1 ≤ sizeLine; decide, fun L2 n2 => ?_⟩
    have s2 := same_upd (o := .lst [.str "one"]) n2
    have hL2 := upd_same (H := H2) (a := L2) (o := .lst [.str "one"])
    generalize upd H2 L2 (.lst [.str "one"]) = H3 at *
    refine ⟨by show 6 ≤ sizeLine; decide, fun L3 n3 => ?_⟩
    have s3 := same_upd (o := .lst [.non, .str "both", .str "One", .int 1, .str "", .ref L2]) n3
    have hL3 := upd_same (H := H3) (a := L3) (o := .lst [.non, .str "both", .str "One", .int 1, .str "", .ref L2])
    generalize upd H3 L3 (.lst [.non, .str "both", .str "One", .int 1, .str "", .ref L2]) = H4 at *
    have s23 := s2.trans s3
    have hp4 := hp2.same s23
    have hL2a : L2 ≠ a := fun e => hp2.some (by rw [← e]; exact n2)
    have hL3a : L3 ≠ a := fun e => (hp2.same s2).some (by rw [← e]; exact n3)
    refine ⟨a, _, rfl, hp4, .inr ⟨L3, _, rfl, hL3a, .inl (.inl hL3), by simp, by show 6 ≤ 1000; decide, fun H5 wrong hwrong hp5 ho5 => ?_⟩⟩
    have hL05 := ho5 _ _ (s23 _ _ hL02) hL0a
    have hL25 := ho5 _ _ (s3 _ _ hL2) hL2a
    have ho05 : Off a H H5 := (Off.of s01).trans (ho2.trans ((Off.of s23).trans ho5))
    refine ⟨by show 3 ≤ sizeLine; decide, fun L4 n4 => ⟨by show 1 ≤ sizeLine; decide, fun L5 n5 => ⟨by show 1 ≤ sizeLine; decide, fun L6 n6 => ?_⟩⟩⟩
    have s4 := same_upd (o := .lst [.int 0, .int 0, .int 0]) n4
    have s5 := same_upd (o := .lst [.ref L4]) n5
    have s6 := same_upd (o := .lst [.bl true]) n6
    have hL4 : upd H5 L4 (.lst [.int 0, .int 0, .int 0]) L4 = _ := upd_same
    have hL5 : upd (upd H5 L4 (.lst [.int 0, .int 0, .int 0])) L5 (.lst [.ref L4]) L5 = _ := upd_same
    have hL6 : upd (upd (upd H5 L4 (.lst [.int 0, .int 0, .int 0])) L5 (.lst [.ref L4])) L6 (.lst [.bl true]) L6 = _ := upd_same
    have hL46 := s6 _ _ (s5 _ _ hL4)
    have hL56 := s6 _ _ hL5
    have s46 := s4.trans (s5.trans s6)
    generalize upd (upd (upd H5 L4 (.lst [.int 0, .int 0, .int 0])) L5 (.lst [.ref L4])) L6 (.lst [.bl true]) = H6 at *
    intro st dst nst ndst _
    have hrw : Dp K H6 (.ref L5) (dLR [[0, 0, 0]]) := .lst (.inl (.inl hL56)) (.cons (.lst (.inl (.inl hL46)) (dpAll_nV [0, 0, 0])) .nil)
    refine make_ok (k := [true]) (sg := xyz) lets_xyz (rw_dLR hrw) (sq_list (.inl (.inl hL6))) good_xyz nst ndst fun H7 s7 hst7 => ?_
    refine ⟨_, rfl, by show 3 ≤ sizeLine; decide, fun due ndue => ?_⟩
    have s8 := same_upd (o := .lst [.str "refused", odd, .bl true]) ndue
    have hdue := upd_same (H := H7) (a := due) (o := .lst [.str "refused", odd, .bl true])
    generalize upd H7 due (.lst [.str "refused", odd, .bl true]) = B at *
    have s58 := s46.trans (s7.trans s8)
    have hst := hst7.same s8
    have hpB := hp5.same s58
    have hoB : Off a H B := ho05.trans (Off.of s58)
    have hA := h2.off hpB hoB
    obtain ⟨od, hod, hodp⟩ : ∃ dv, AnyV K B odd dv ∧ isPlaceD one.1.length dv = false := by
      simp only [List.mem_cons, List.not_mem_nil, or_false] at hodd
      rcases hodd with rfl | rfl | rfl | rfl | rfl | rfl | rfl
      · exact ⟨_, .non, rfl⟩
      · exact ⟨_, .int _, place_out (by omega)⟩
      · exact ⟨_, .int _, place_out (by omega)⟩
      · exact ⟨_, .bl _, rfl⟩
      · exact ⟨_, .str _ (by decide), rfl⟩
      · exact ⟨_, .lst1 (s58 _ _ hL05) (.int 0), rfl⟩
      · exact ⟨_, .int _, place_out (by omega)⟩
    obtain ⟨wd, hwd, hwdp⟩ : ∃ dv, AnyV K B wrong dv ∧ isWhich dv = false := by
      simp only [List.mem_cons, List.not_mem_nil, or_false] at hwrong
      rcases hwrong with rfl | rfl | rfl | rfl | rfl | rfl
      · exact ⟨_, .non, rfl⟩
      · exact ⟨_, .str _ (by decide), by decide +kernel⟩
      · exact ⟨_, .str _ (by decide), by decide +kernel⟩
      · exact ⟨_, .int _, rfl⟩
      · exact ⟨_, .str _ (by decide), by decide +kernel⟩
      · exact ⟨_, .lst1 (s58 _ _ hL25) (.str _), rfl⟩
    have az := hx.lets.az
    have hfew := hx.lets.few
    have hne2 := h2.two.my.good.ne
    have hxB := hA.two.mx.same hide_le
    have hxtB := hoB _ _ hxt (fun e => by
      obtain ⟨u, v, ea, _⟩ := h2.pot
      rw [← e, hxt] at ea
      cases ea)
    clear hodd hwrong hL1 hL3 hL02 hL05 hL25 hL46 hL56 hL6 hL4 hL5 n4 n5 n6 nst ndst hrw hst7
    have hR : LamX.ExtN B B ∧ TabsN (NTs Pt) B := ⟨LamX.ExtN.refl _, hA.tabs⟩
    dsimp only [gName]
    refine seq_to ?_
    obtain ⟨hE0, hT0⟩ := hR
    refine if_to (fun H1 => LamX.ExtN B H1 ∧ TabsN (NTs Pt) H1) (fun Q' hQ => ?_) (fun B1 r1 => ?_)
    · refine ask false (fun l r L H Q h1 h2 ok q => ⟨l, r, L, rfl, rfl, h1, h2, ok, q⟩) (.ref 3 odd) hT0 (ok_ref hod.ok) (fun H1 E Qv e1 T1 hE => ?_) (fun H2 Qb e2 kb => ⟨_, rfl, kb H2 due (Same.refl _) ((hE0.trans e2) _ _ hdue (fun _ z => by cases z))⟩) fun H3 e3 T3 => ⟨false, rfl, hQ H3 ⟨hE0.trans e3, T3⟩⟩
      have eB := hE0.trans e1
      have A1 := hA.ext eB T1
      obtain ⟨dd1, a1, b1, p1, ts1, hd1, _⟩ := id A1.two.desk.ex
      exact ⟨_, rfl, d, dd1, _, rfl, hd1, rfl, _, rfl, l, d, _, odd, .str "one", od, sg, one, other, past, rfl, A1.dl, A1.loose, A1.two.desk, A1.few, .data (.str _), (hod.ext eB).dp, .inr ⟨true, rfl, .inl ⟨hodp, rz_of hE (by decide) rfl⟩⟩⟩
    obtain ⟨hE1, hT1⟩ := r1
    dsimp only [tNext]
    refine seq_to ?_
    refine if_to (fun H1 => LamX.ExtN B H1 ∧ TabsN (NTs Pt) H1) (fun Q' hQ => ?_) (fun B2 r2 => ?_)
    · refine ask false (fun l r L H Q h1 h2 ok q => ⟨l, r, L, rfl, rfl, h1, h2, ok, q⟩) (.ref 3 odd) hT1 (ok_ref hod.ok) (fun H1 E Qv e1 T1 hE => ?_) (fun H2 Qb e2 kb => ⟨_, rfl, kb H2 due (Same.refl _) ((hE1.trans e2) _ _ hdue (fun _ z => by cases z))⟩) fun H3 e3 T3 => ⟨false, rfl, hQ H3 ⟨hE1.trans e3, T3⟩⟩
      have eB := hE1.trans e1
      have A1 := hA.ext eB T1
      obtain ⟨dd1, a1, b1, p1, ts1, hd1, _⟩ := id A1.two.desk.ex
      exact ⟨_, rfl, d, dd1, _, rfl, hd1, rfl, _, rfl, l, d, _, odd, _, _, .str "one", od, .str "a", .int 0, sg, one, other, past, rfl, A1.dl, A1.loose, A1.two.desk, A1.few, .data (.str _), (hod.ext eB).dp, .data (.str _), .data (.int _), short_a, .inr ⟨true, rfl, .inl ⟨hodp, rz_of hE (by decide) rfl⟩⟩⟩
    obtain ⟨hE2, hT2⟩ := r2
    dsimp only [tNext]
    refine seq_to ?_
    refine if_to (fun H1 => LamX.ExtN B H1 ∧ TabsN (NTs Pt) H1) (fun Q' hQ => ?_) (fun B3 r3 => ?_)
    · refine ask false (fun l r L H Q h1 h2 ok q => ⟨l, r, L, rfl, rfl, h1, h2, ok, q⟩) (.ref 3 odd) hT2 (ok_ref hod.ok) (fun H1 E Qv e1 T1 hE => ?_) (fun H2 Qb e2 kb => ⟨_, rfl, kb H2 due (Same.refl _) ((hE2.trans e2) _ _ hdue (fun _ z => by cases z))⟩) fun H3 e3 T3 => ⟨false, rfl, hQ H3 ⟨hE2.trans e3, T3⟩⟩
      have eB := hE2.trans e1
      have A1 := hA.ext eB T1
      obtain ⟨dd1, a1, b1, p1, ts1, hd1, _⟩ := id A1.two.desk.ex
      exact ⟨_, rfl, d, dd1, _, rfl, hd1, rfl, _, rfl, l, d, _, _, _, odd, .str "one", .int 0, .str "a", od, sg, one, other, past, rfl, A1.dl, A1.loose, A1.two.desk, A1.few, .data (.str _), .data (.int _), .data (.str _), (hod.ext eB).dp, short_a, .inr ⟨true, rfl, .inr (.inr (.inl ⟨place_0 hne, letter_a h97, hodp, rz_of hE (by decide) rfl⟩))⟩⟩
    obtain ⟨hE3, hT3⟩ := r3
    dsimp only [tNext]
    refine seq_to ?_
    refine if_to (fun H1 => LamX.ExtN B H1 ∧ TabsN (NTs Pt) H1) (fun Q' hQ => ?_) (fun B4 r4 => ?_)
    · refine ask false (fun l r L H Q h1 h2 ok q => ⟨l, r, L, rfl, rfl, h1, h2, ok, q⟩) (.ref 0 wrong) hT3 (ok_ref hwd.ok) (fun H1 E Qv e1 T1 hE => ?_) (fun H2 Qb e2 kb => ⟨_, rfl, by show 3 ≤ sizeLine; decide, fun r nr => kb _ r (same_upd nr) upd_same⟩) fun H3 e3 T3 => ⟨false, rfl, hQ H3 ⟨hE3.trans e3, T3⟩⟩
      have eB := hE3.trans e1
      have A1 := hA.ext eB T1
      obtain ⟨dd1, a1, b1, p1, ts1, hd1, _⟩ := id A1.two.desk.ex
      exact ⟨_, rfl, d, dd1, _, rfl, hd1, rfl, _, rfl, l, d, wrong, _, wd, .int 0, sg, one, other, past, rfl, A1.dl, A1.loose, A1.two.desk, A1.few, (hwd.ext eB).dp, .data (.int _), .inl ⟨hwdp, rz_of hE (by decide) rfl⟩⟩
    obtain ⟨hE4, hT4⟩ := r4
    dsimp only [tNext]
    refine seq_to ?_
    refine if_to (fun H1 => LamX.ExtN B H1 ∧ TabsN (NTs Pt) H1) (fun Q' hQ => ?_) (fun B5 r5 => ?_)
    · refine ask false (fun l r L H Q h1 h2 ok q => ⟨l, r, L, rfl, rfl, h1, h2, ok, q⟩) (.ref 0 wrong) hT4 (ok_ref hwd.ok) (fun H1 E Qv e1 T1 hE => ?_) (fun H2 Qb e2 kb => ⟨_, rfl, by show 3 ≤ sizeLine; decide, fun r nr => kb _ r (same_upd nr) upd_same⟩) fun H3 e3 T3 => ⟨false, rfl, hQ H3 ⟨hE4.trans e3, T3⟩⟩
      have eB := hE4.trans e1
      have A1 := hA.ext eB T1
      obtain ⟨dd1, a1, b1, p1, ts1, hd1, _⟩ := id A1.two.desk.ex
      exact ⟨_, rfl, d, dd1, _, rfl, hd1, rfl, _, rfl, l, d, wrong, _, _, _, wd, .none, .none, .none, sg, one, other, past, rfl, A1.dl, A1.loose, A1.two.desk, A1.few, (hwd.ext eB).dp, .data .non, .data .non, .data .non, trivial, .inl ⟨hwdp, rz_of hE (by decide) rfl⟩⟩
    obtain ⟨hE5, hT5⟩ := r5
    dsimp only [tNext]
    refine seq_to ?_
    refine if_to (fun H1 => LamX.ExtN B H1 ∧ TabsN (NTs Pt) H1) (fun Q' hQ => ?_) (fun B6 r6 => ?_)
    · refine ask false (fun l r L H Q h1 h2 ok q => ⟨l, r, L, rfl, rfl, h1, h2, ok, q⟩) (.ref 1 (.str "~")) hT5 (ok_ref (.inl rfl)) (fun H1 E Qv e1 T1 hE => ?_) (fun H2 Qb e2 kb => ⟨by show 3 ≤ sizeLine; decide, fun r nr => kb _ r (same_upd nr) upd_same⟩) fun H3 e3 T3 => ⟨false, rfl, hQ H3 ⟨hE5.trans e3, T3⟩⟩
      have eB := hE5.trans e1
      have A1 := hA.ext eB T1
      obtain ⟨dd1, a1, b1, p1, ts1, hd1, _⟩ := id A1.two.desk.ex
      exact ⟨_, rfl, d, dd1, _, rfl, hd1, rfl, l, d, _, _, _, _, .str "other", .int 0, .str "~", .int 0, sg, one, other, past, rfl, A1.dl, A1.loose, A1.two.desk, A1.few, .data (.str _), .data (.int _), .data (.str _), .data (.int _), short_t, .inr ⟨false, rfl, .inr (.inl ⟨place_0 hne2, letter_t az, rz_of hE (by decide) rfl⟩)⟩⟩
    obtain ⟨hE6, hT6⟩ := r6
    dsimp only [tNext]
    refine seq_to ?_
    have xM := (hA.ext hE6 hT6).two.mx.same hide_le
    obtain ⟨dx6, r6, q6, hxt6, _⟩ := id xM.at_
    refine ⟨by show 1 ≤ sizeLine; decide, fun La na => ?_⟩
    have sa := same_upd (o := .lst [.str "a"]) na
    have hLa := upd_same (H := B6) (a := La) (o := .lst [.str "a"])
    generalize upd B6 La (.lst [.str "a"]) = B7 at *
    refine ⟨_, rfl, x, dx6, _, rfl, sa _ _ hxt6, x, sg, _, _, rfl, xM.same sa, sg, [126], rfl, rfl, by rw [sizeLine_eq]; show sg.length + 1 ≤ _; omega, by show 6 ≤ sizeLine; decide, fun Lv nv => ?_⟩
    have sv := same_upd (o := .lst [.non, .int 1, .str "A", .str "a ", .ref La, tx (sg ++ [126])]) nv
    have hLv := upd_same (H := B7) (a := Lv) (o := .lst [.non, .int 1, .str "A", .str "a ", .ref La, tx (sg ++ [126])])
    have hLa8 := sv _ _ hLa
    refine ⟨_, rfl, ⟨_, .inl (.inl hLv)⟩, ?_⟩
    generalize upd B7 Lv (.lst [.non, .int 1, .str "A", .str "a ", .ref La, tx (sg ++ [126])]) = B8 at *
    have hE8 := hE6.trans (LamX.ExtN.of (sa.trans sv))
    have hT8 := hT6.ext (sa.trans sv)
    refine for_it (walk_list (xs := [.non, .int 1, .str "A", .str "a ", .ref La, tx (sg ++ [126])])) (fun i σ H' => ∃ g, σ = [some (.ref a), some (.ref d), some (.ref x), some (.ref y), some odd, some wrong, some (.ref st), some (.ref due), g] ∧ LamX.ExtN B8 H' ∧ TabsN (NTs Pt) H') ⟨none, rfl, LamX.ExtN.refl _, hT8⟩ (fun i σ H' _ p => by obtain ⟨_, _, e9, _⟩ := p; exact .inl (.inl (e9 _ _ hLv (fun _ z => by cases z)))) (fun i v σ H9 H10 hi p yy => ?_) (fun σ H9 p => ?_)
    · obtain ⟨g9, rfl, e9, T9⟩ := p
      obtain ⟨rfl, yy⟩ := yy
      have hE9 := hE8.trans e9
      obtain ⟨vd, hvd, hov⟩ : ∃ dv, AnyV K H10 v dv ∧ overD sg dv = false := by
        match i, yy with
        | 0, yy => cases yy; exact ⟨_, .non, rfl⟩
        | 1, yy => cases yy; exact ⟨_, .int _, rfl⟩
        | 2, yy => cases yy; exact ⟨_, .str _ (by decide), over_c az (by omega)⟩
        | 3, yy => cases yy; exact ⟨_, .str _ (by decide), over_sp az⟩
        | 4, yy => cases yy; exact ⟨_, .lst1 (e9 _ _ hLa8 (fun _ z => by cases z)) (.str _), rfl⟩
        | 5, yy => cases yy; exact ⟨_, .str _ (by show (sg ++ [126]).length ≤ 1000; rw [List.length_append]; show sg.length + 1 ≤ _; omega), over_app az⟩
        | i + 6, yy => cases yy
      dsimp only [gName]
      refine if_to (fun H1 => LamX.ExtN H10 H1 ∧ TabsN (NTs Pt) H1) (fun Q' hQ => ?_) (fun B11 r11 => ?_)
      · refine ask false (fun l r L H Q h1 h2 ok q => ⟨l, r, L, rfl, rfl, h1, h2, ok, q⟩) (.ref 4 v) T9 (ok_ref hvd.ok) (fun H1 E Qv e1 T1 hE => ?_) (fun H2 Qb e2 kb => ⟨_, rfl, by show 3 ≤ sizeLine; decide, fun r nr => kb _ r (same_upd nr) upd_same⟩) fun H3 e3 T3 => ⟨false, rfl, hQ H3 ⟨e3, T3⟩⟩
        have eB := hE9.trans e1
        have A1 := hA.ext eB T1
        obtain ⟨dd1, a1, b1, p1, ts1, hd1, _⟩ := id A1.two.desk.ex
        exact ⟨_, rfl, _, rfl, d, dd1, _, rfl, hd1, l, d, v, vd, sg, one, other, past, rfl, A1.two.desk, (hvd.ext e1).dp, hvd.short, .inr ⟨hov, rz_of hE (by decide) rfl⟩⟩
      obtain ⟨hE11, hT11⟩ := r11
      dsimp only [tNext]
      exact ⟨_, rfl, e9.trans hE11, hT11⟩
    obtain ⟨g9, rfl, e9, T9⟩ := p
    have hE9 := hE8.trans e9
    have hx9 := (hA.ext hE9 T9).two.mx.same hide_le
    dsimp only
    refine seq_to ?_
    refine ⟨_, rfl, by show 1 ≤ sizeLine; decide, fun Lx nx => ⟨by show 4 ≤ sizeLine; decide, fun Lw nw => ?_⟩⟩
    have sx := same_upd (o := .lst [.ref x]) nx
    have hLx := upd_same (H := H9) (a := Lx) (o := .lst [.ref x])
    generalize upd H9 Lx (.lst [.ref x]) = B12 at *
    have sw := same_upd (o := .lst [.non, .str "ab", .int 7, .ref Lx]) nw
    have hLw := upd_same (H := B12) (a := Lw) (o := .lst [.non, .str "ab", .int 7, .ref Lx])
    have hLx2 := sw _ _ hLx
    refine ⟨_, rfl, ⟨_, .inl (.inl hLw)⟩, ?_⟩
    generalize upd B12 Lw (.lst [.non, .str "ab", .int 7, .ref Lx]) = B13 at *
    have hE13 := hE9.trans (LamX.ExtN.of (sx.trans sw))
    have hT13 := T9.ext (sx.trans sw)
    refine for_it (walk_list (xs := [.non, .str "ab", .int 7, .ref Lx])) (fun i σ H' => ∃ g, σ = [some (.ref a), some (.ref d), some (.ref x), some (.ref y), some odd, some wrong, some (.ref st), some (.ref due), g] ∧ LamX.ExtN B13 H' ∧ TabsN (NTs Pt) H') ⟨_, rfl, LamX.ExtN.refl _, hT13⟩ (fun i σ H' _ p => by obtain ⟨_, _, e14, _⟩ := p; exact .inl (.inl (e14 _ _ hLw (fun _ z => by cases z)))) (fun i v σ H14 H15 hi p yy => ?_) (fun σ H14 p => ?_)
    · obtain ⟨g14, rfl, e14, T14⟩ := p
      obtain ⟨rfl, yy⟩ := yy
      have hE14 := hE13.trans e14
      obtain ⟨ty, hty, hp1, hp2, hp3, hok⟩ : ∃ t, (∀ H', LamX.ExtN H15 H' → TyX K H' v (.type t)) ∧ plainTy t = true ∧ plainOp .BitOr t = true ∧ plainOp .Sub t = true ∧ OkE v := by
        match i, yy with
        | 0, yy => cases yy; exact ⟨_, fun _ _ => tyx_dpD (.data .non), by decide +kernel, by decide +kernel, by decide +kernel, .inl rfl⟩
        | 1, yy => cases yy; exact ⟨_, fun _ _ => tyx_dpD (.data (.str _)), by decide +kernel, by decide +kernel, by decide +kernel, .inl rfl⟩
        | 2, yy => cases yy; exact ⟨_, fun _ _ => tyx_dpD (.data (.int _)), by decide +kernel, by decide +kernel, by decide +kernel, .inl rfl⟩
        | 3, yy => cases yy; exact ⟨"list", fun H' e => ty_list (.inl (.inl (e _ _ (e14 _ _ hLx2 (fun _ z => by cases z)) (fun _ z => by cases z)))), by decide +kernel, by decide +kernel, by decide +kernel, .inr ⟨_, rfl⟩⟩
        | i + 4, yy => cases yy
      dsimp only [gName]
      refine seq_to ?_
      refine if_to (fun H1 => LamX.ExtN H15 H1 ∧ TabsN (NTs Pt) H1) (fun Q' hQ => ?_) (fun B16 r16 => ?_)
      · refine ask false (fun l r L H Q h1 h2 ok q => ⟨l, r, L, rfl, rfl, h1, h2, ok, q⟩) (.ref 2 v) T14 (ok_ref hok) (fun H1 E Qv e1 T1 hE => ?_) (fun H2 Qb e2 kb => ⟨_, rfl, by show 3 ≤ sizeLine; decide, fun r nr => kb _ r (same_upd nr) upd_same⟩) fun H3 e3 T3 => ⟨false, rfl, hQ H3 ⟨e3, T3⟩⟩
        have eB := hE14.trans e1
        have A1 := hA.ext eB T1
        obtain ⟨dd1, a1, b1, p1, ts1, hd1, _⟩ := id A1.two.desk.ex
        exact ⟨_, rfl, _, rfl, l, d, v, sg, one, other, past, rfl, A1.dl, A1.loose, A1.two.desk, A1.few, .inr (.inl ⟨ty, hty _ e1, hp1, hp2, hp3, rz_of hE (by decide) rfl⟩)⟩
      obtain ⟨hE16, hT16⟩ := r16
      dsimp only [tNext]
      refine if_to (fun H1 => LamX.ExtN H15 H1 ∧ TabsN (NTs Pt) H1) (fun Q' hQ => ?_) (fun B17 r17 => ?_)
      · refine ask false (fun l r L H Q h1 h2 ok q => ⟨l, r, L, rfl, rfl, h1, h2, ok, q⟩) (.ref 2 v) hT16 (ok_ref hok) (fun H1 E Qv e1 T1 hE => ?_) (fun H2 Qb e2 kb => ⟨_, rfl, by show 3 ≤ sizeLine; decide, fun r nr => kb _ r (same_upd nr) upd_same⟩) fun H3 e3 T3 => ⟨false, rfl, hQ H3 ⟨hE16.trans e3, T3⟩⟩
        have eB := (hE14.trans hE16).trans e1
        have A1 := hA.ext eB T1
        obtain ⟨dd1, a1, b1, p1, ts1, hd1, _⟩ := id A1.two.desk.ex
        exact ⟨_, rfl, _, rfl, l, d, v, sg, one, other, past, rfl, A1.dl, A1.loose, A1.two.desk, A1.few, .inr (.inl ⟨ty, hty _ (hE16.trans e1), hp1, hp2, hp3, rz_of hE (by decide) rfl⟩)⟩
      obtain ⟨hE17, hT17⟩ := r17
      dsimp only [tNext]
      exact ⟨_, rfl, e14.trans hE17, hT17⟩
    obtain ⟨g14, rfl, e14, T14⟩ := p
    have hE14 := hE13.trans e14
    dsimp only
    refine seq_to ?_
    refine if_to (fun H1 => LamX.ExtN B H1 ∧ TabsN (NTs Pt) H1) (fun Q' hQ => ?_) (fun B18 r18 => ?_)
    · refine ask false (fun l r L H Q h1 h2 ok q => ⟨l, r, L, rfl, rfl, h1, h2, ok, q⟩) (.letters sg xyz) T14 (ok_letters) (fun H1 E Qv e1 T1 hE => ?_) (fun H2 Qb e2 kb => ⟨_, rfl, x, dx, _, rfl, (hE14.trans e2) _ _ hxtB (fun _ z => by cases z), x, sg, _, _, rfl, hxB.ext (hE14.trans e2), by show 4 ≤ sizeLine; decide, fun r nr => kb _ r (same_upd nr) upd_same⟩) fun H3 e3 T3 => ⟨false, rfl, hQ H3 ⟨hE14.trans e3, T3⟩⟩
      have eB := hE14.trans e1
      have A1 := hA.ext eB T1
      obtain ⟨dd1, a1, b1, p1, ts1, hd1, _⟩ := id A1.two.desk.ex
      exact ⟨_, rfl, _, rfl, l, d, _, sg, one, other, past, rfl, A1.dl, A1.loose, A1.two.desk, A1.few, .inr (.inr ⟨st, xyz, _, _, rfl, hst.ext eB, hxyz, oz_of hE⟩)⟩
    obtain ⟨hE18, hT18⟩ := r18
    dsimp only [tNext]
    refine ask true (fun l r L H Q h1 h2 ok q => ⟨l, r, L, rfl, rfl, h1, h2, ok, q⟩) (.letters sg xyz) hT18 ok_letters (fun H1 E Qv e1 T1 hE => ?_) (fun H2 Qb e2 kb => ⟨_, rfl, x, dx, _, rfl, (hE18.trans e2) _ _ hxtB (fun _ z => by cases z), x, sg, _, _, rfl, hxB.ext (hE18.trans e2), by show 4 ≤ sizeLine; decide, fun r nr => kb _ r (same_upd nr) upd_same⟩) fun H3 e3 T3 => ?_
    · have eB := hE18.trans e1
      have A1 := hA.ext eB T1
      obtain ⟨dd1, a1, b1, p1, ts1, hd1, _⟩ := id A1.two.desk.ex
      exact ⟨_, rfl, _, rfl, l, d, _, sg, one, other, past, rfl, A1.dl, A1.loose, A1.two.desk, A1.few, .inr (.inr ⟨st, xyz, _, _, rfl, hst.ext eB, hxyz, oz_of hE⟩)⟩
    · exact q _ (hA.ext (hE18.trans e3) T3).pot ((hoB.kp (l := [a]) List.mem_cons_self).trans (Kp.ext (hE18.trans e3))) T3
end
end Lw
namespace Lw
open PySem PySem.Spec PyProof.Rows L3 NdefX
open L2 hiding del del_same del_ne
section
variable {w : World} {K : PySem.W.Frag} {mg : Str → Option Value} {base : Heap} {Pt : Nat → Addr} {c0 c1 c2 : Addr}
theorem tabs_dsk {TL : List NTab} {d C dx : Addr} {fs : List (Str × V)} {H H' : Hp} (t : TabsN TL H) (hd : H d = some (.ins C dx fs)) (s : Same (hide [d] H) (hide [d] H')) : TabsN TL H' := by
  have key : ∀ b o, H b = some o → (∀ C dx fs, o ≠ .ins C dx fs) → H' b = some o := fun b o e n => by
    have nb : b ∉ [d] := fun z => by
      rw [List.mem_singleton.mp z, hd] at e
      exact n _ _ _ (Option.some.inj e).symm
    exact (hide_some (s b o (by rw [hide_out nb]; exact e))).2
  intro p hpm
  obtain ⟨ps, h1, h2, h3⟩ := t p hpm
  refine ⟨ps, key _ _ h1 (fun _ _ _ z => by cases z), h2, fun pos cv hc => ?_⟩
  obtain ⟨c, e1, e2⟩ := h3 pos cv hc
  exact ⟨c, e1, key _ _ e2 (fun _ _ _ z => by cases z)⟩
/-- behind a change of the desk -/
structure Beh (T : All K mg) (Pt : Nat → Addr) (l : List Addr) (H : Hp) (a d x y : Addr) (sg : List Nat) (one other m1 m2 : MV) (past2 : List (MV × MV)) : Prop where
  pot : Pot H a
  loose : LooseL l H
  tabs : TabsN (NTs Pt) H
  desk : DeskS T.C_Machine T.C_Desk K l H d sg m1 m2 past2
  mx : MachV T.C_Machine K (hide l H) x sg one
  my : MachV T.C_Machine K (hide l H) y sg other
theorem Ask.dsk {T : All K mg} {l : List Addr} {H H' : Hp} {a d x y : Addr} {sg : List Nat} {one other m1 m2 : MV} {past p2 : List (MV × MV)} (h : Ask T Pt l H a d x y sg one other past) (s : Same (hide [d] H) (hide [d] H')) (hD : DeskS T.C_Machine T.C_Desk K l H' d sg m1 m2 p2) : Beh T Pt l H' a d x y sg one other m1 m2 p2 ∧ Kp [a, d] H H' := by
  obtain ⟨dd, a0, b0, p0, ts, hd, _⟩ := id h.two.desk.ex
  have k1 : Kp [d] H H' := Kp.of_hide s
  have k2 : Kp l H H' := k1.mono fun b m => by rw [List.mem_singleton.mp m]; exact h.dl
  obtain ⟨u, v, ea, r⟩ := id h.pot
  have hp : Pot H' a := ⟨u, v, k1 _ _ ea (fun m => h.ne (List.mem_singleton.mp m).symm) (fun _ z => by cases z), r⟩
  refine ⟨⟨hp, h.loose.kp k1 (fun b m => by rw [List.mem_singleton.mp m]; exact hD.loose), tabs_dsk h.tabs hd s, hD, h.two.mx.ext k2.hide, h.two.my.ext k2.hide⟩, k1.mono fun b m => ?_⟩
  rw [List.mem_singleton.mp m]
  simp
theorem Beh.same {T : All K mg} {l : List Addr} {H H' : Hp} {a d x y : Addr} {sg : List Nat} {one other m1 m2 : MV} {p2 : List (MV × MV)} (h : Beh T Pt l H a d x y sg one other m1 m2 p2) (s : Same H H') : Beh T Pt l H' a d x y sg one other m1 m2 p2 := by
  have k : Kp l H H' := .same s
  exact ⟨h.pot.same s, h.loose.same s, h.tabs.ext s, h.desk.same s, h.mx.ext k.hide, h.my.ext k.hide⟩
theorem Ask.same {T : All K mg} {l : List Addr} {H H' : Hp} {a d x y : Addr} {sg : List Nat} {one other : MV} {past : List (MV × MV)} (h : Ask T Pt l H a d x y sg one other past) (s : Same H H') : Ask T Pt l H' a d x y sg one other past := h.ext (LamX.ExtN.of s) (h.tabs.ext s)
theorem told_ok : ∀ v ∈ [V.str "told", V.non], OkE v := fun v hv => by
  simp only [List.mem_cons, List.not_mem_nil, or_false] at hv
  rcases hv with rfl | rfl <;> exact .inl rfl
theorem idx_nd {sg : List Nat} (hn : sg.Nodup) {i c : Nat} (h : sg[i]? = some c) : sg.idxOf c = i := by
  obtain ⟨hi, e⟩ := List.getElem?_eq_some_iff.mp h
  have hc : c ∈ sg := List.mem_of_getElem? h
  have h1 : sg.idxOf c < sg.length := List.idxOf_lt_length_of_mem hc
  have h2 : sg[sg.idxOf c] = c := List.getElem_idxOf h1
  exact (List.getElem_inj hn).mp (h2.trans e.symm)
def wI (b : Bool) : Nat := if b then 0 else 1
theorem wI_of {n : Nat} (h : n < 2) : ∃ b, n = wI b := by
  obtain rfl | rfl : n = 0 ∨ n = 1 := by omega
  · exact ⟨true, rfl⟩
  · exact ⟨false, rfl⟩
theorem wI_at {b : Bool} {x y : V} : atI [x, y] ((wI b : Nat) : Int) = some (pick2 b x y) := by cases b <;> rfl
theorem pick_ref (b : Bool) (x y : Addr) : pick2 b (V.ref x) (V.ref y) = .ref (pick2 b x y) := by cases b <;> rfl
theorem pick_str (b : Bool) : pick2 b (V.str "one") (V.str "other") = .str (wS b) := by cases b <;> rfl
theorem pick_m {C : Addr} {G : Hp} {x y : Addr} {sg : List Nat} {one other : MV} (b : Bool) (hx : MachV C K G x sg one) (hy : MachV C K G y sg other) : MachV C K G (pick2 b x y) sg (pick2 b one other) := by cases b; exact hy; exact hx
/-- a change -/
def spChange (T : All K mg) (Pt : Nat → Addr) : Sp := fun vs H Q _ => ∃ (a d x y : Addr) (l : List Addr) (sg : List Nat) (one other : MV) (past : List (MV × MV)), vs = [.ref a, .ref d, .ref x, .ref y] ∧ Ask T Pt l H a d x y sg one other past ∧ one.1.length ≤ 6 ∧ other.1.length ≤ 6 ∧
  (∀ H' p, Kp [a] H H' → TabsN (NTs Pt) H' → Pot H' a → H' p = some (.lst [.bl true, .non]) → Q (.ref p) H') ∧
  (∀ H' p t u v m1 m2, Kp [a, d] H H' → H' p = some (.lst [.bl true, .ref t]) → H' t = some (.tup [.ref u, .ref v]) → t ∉ l → Beh T Pt l H' a d u v sg m1 m2 m1 m2 (past ++ [(one, other)]) → m1.1.length ≤ 6 → m2.1.length ≤ 6 → Q (.ref p) H')
theorem ok_law_change (T : All K mg) (hcd1 : T.d_law_change.code = .ref c1) (TB1 : LamX.TabB base mg c1 (Pt 1)) (hD : Dst Pt) : FnOkG PW w K mg base CX0 17 T.f_law_change T.d_law_change ["_law_pot_here", "_law_held", "_law_one", "_law_other"] (spChange T Pt) := by
  refine okC T.law_change.F sc_law_change (fun vs H Q E h => ?_) (fun A outer s H vs Q E hr hG h => ?_)
  · obtain ⟨a, d, x, y, l, sg, one, other, past, rfl, _⟩ := h
    rfl
  · obtain ⟨a, d, x, y, l, sg, one, other, past, rfl, hA, h6, h6', qN, qS⟩ := h
    refine ⟨_, pss_cons (ps_par rfl sc_law_change.nd (i := 4) (j := 5) rfl rfl (by decide) rfl rfl (pa_cons (pe_call (ok_law_draw T) (hr.mono (by decide)) (by rfl) T.law_draw.g T.law_draw.F.kp T.law_draw.b .nil pass0 (pa_cons (pv 0) (pa_cons pe_int pa_nil))) (pa_cons (pe_call (ok_law_draw T) (hr.mono (by decide)) (by rfl) T.law_draw.g T.law_draw.F.kp T.law_draw.b .nil pass0 (pa_cons (pv 0) (pa_cons pe_int pa_nil))) pa_nil)) (by rfl))
      (pss_cons (ps_asg (pe_tup (pa_cons (pe_ix ix_list (pe_lst (pa_cons (pv 2) (pa_cons (pv 3) pa_nil))) (pv 4) (fun _ _ => rfl)) (pa_cons (pe_ix ix_list (pe_lst (pa_cons pe_str (pa_cons pe_str pa_nil))) (pv 4) (fun _ _ => rfl)) pa_nil))) (pg_tup rfl (pgs_cons (pg_name (i := 6) sc_law_change.nd rfl (by first | exact Or.inl rfl | exact Or.inr rfl)) (pgs_cons (pg_name (i := 7) sc_law_change.nd rfl (by first | exact Or.inl rfl | exact Or.inr rfl)) pgs_nil))))
      (pss_cons (ps_set (i := 8) sc_law_change.nd rfl (by first | exact Or.inl rfl | exact Or.inr rfl) (pe_call (ok_law_draw T) (hr.mono (by decide)) (by rfl) T.law_draw.g T.law_draw.F.kp T.law_draw.b .nil pass0 (pa_cons (pv 0) (pa_cons (pe_callB (cr_lenOwn (FnOkG.of (ok_Machine_len T)) (hr.mono (by decide)) hG T.Machine_len.b T.Machine_len.m) (by rfl) T.b_len PySem.boot_len (pa_cons (pv 6) pa_nil)) pa_nil))))
      (pss_cons (ps_if (pt_cmpR op_eq (pv 5) pe_int (nomark _)) (pss_one (ps_par rfl sc_law_change.nd (i := 9) (j := 10) rfl rfl (by decide) rfl rfl (pa_cons (pe_lamSN (T := NTs Pt) (k := 12) (by rfl) T.law_heard.g T.law_heard.F T.law_heard.b sc_law_heard rfl (by first | exact Or.inl rfl | exact Or.inr (Or.inl rfl)) (heard_gives T rfl rfl) TB1 hcd1 ntm1 (nt_u1 hD) (hr.mono (by decide)) (LamX.lamS_by (sc := defScope s_law_change) (by decide +kernel)) rfl (fun _ _ _ _ _ => rfl)
        (fun A outer s H E f c2 hr => (pe_meth (pv 1) T.cl_Desk T.Desk_turn.m (ok_Desk_turn T) (hr.mono (by decide)) T.Desk_turn.b .nil (passes_call (takes_of rfl rfl rfl rfl) (fun _ _ _ _ h => h)) (pa_cons (pv 7) (pa_cons (pv 8) pa_nil))))) (pa_cons (pe_call (ok_law_flipped T) (hr.mono (by decide)) (by rfl) T.law_flipped.g T.law_flipped.F.kp T.law_flipped.b .nil pass0 (pa_cons (pv 6) (pa_cons (pv 8) pa_nil))) pa_nil)) (by rfl))) (pss_one (ps_if (pt_cmpR op_eq (pv 5) pe_int (nomark _)) (pss_cons (ps_asg (pe_tup (pa_cons (pe_call (ok_law_draw T) (hr.mono (by decide)) (by rfl) T.law_draw.g T.law_draw.F.kp T.law_draw.b .nil pass0 (pa_cons (pv 0) (pa_cons (pe_callB call_lenT (by rfl) T.b_len PySem.boot_len (pa_cons (pe_prop (pv 2) T.cl_Machine T.Machine_letters.p (ok_Machine_letters T) (hr.mono (by decide)) T.Machine_letters.b .nil pass0 rfl) pa_nil)) pa_nil))) (pa_cons (pe_call (ok_law_draw T) (hr.mono (by decide)) (by rfl) T.law_draw.g T.law_draw.F.kp T.law_draw.b .nil pass0 (pa_cons (pv 0) (pa_cons (pe_callB (cr_lenOwn (FnOkG.of (ok_Machine_len T)) (hr.mono (by decide)) hG T.Machine_len.b T.Machine_len.m) (by rfl) T.b_len PySem.boot_len (pa_cons (pv 6) pa_nil)) pa_nil))) pa_nil))) (pg_tup rfl (pgs_cons (pg_name (i := 11) sc_law_change.nd rfl (by first | exact Or.inl rfl | exact Or.inr rfl)) (pgs_cons (pg_name (i := 12) sc_law_change.nd rfl (by first | exact Or.inl rfl | exact Or.inr rfl)) pgs_nil))))
      (pss_cons (ps_set (i := 9) sc_law_change.nd rfl (by first | exact Or.inl rfl | exact Or.inr rfl) (pe_lamSN (T := NTs Pt) (k := 12) (by rfl) T.law_heard.g T.law_heard.F T.law_heard.b sc_law_heard rfl (by first | exact Or.inl rfl | exact Or.inr (Or.inl rfl)) (heard_gives T rfl rfl) TB1 hcd1 ntm1 (nt_u1 hD) (hr.mono (by decide)) (LamX.lamS_by (sc := defScope s_law_change) (by decide +kernel)) rfl (fun _ _ _ _ _ => rfl)
        (fun A outer s H E f c2 hr => (pe_meth (pv 1) T.cl_Desk T.Desk_lead.m (ok_Desk_lead T) (hr.mono (by decide)) T.Desk_lead.b .nil (passes_call (takes_of rfl rfl rfl rfl) (fun _ _ _ _ h => h)) (pa_cons (pv 7) (pa_cons (pv 8) (pa_cons (pe_ix ix_tx (pe_prop (pv 2) T.cl_Machine T.Machine_letters.p (ok_Machine_letters T) (hr.mono (by decide)) T.Machine_letters.b .nil pass0 rfl) (pv 11) (fun _ _ => rfl)) (pa_cons (pv 12) pa_nil))))))))
      (pss_cons (ps_set (i := 10) sc_law_change.nd rfl (by first | exact Or.inl rfl | exact Or.inr rfl) (pe_call (ok_law_led T) (hr.mono (by decide)) (by rfl) T.law_led.g T.law_led.F.kp T.law_led.b .nil pass0 (pa_cons (pv 6) (pa_cons (pv 8) (pa_cons (pv 11) (pa_cons (pv 12) pa_nil))))))
      (pss_one (ps_if (pt_cmpR op_isN (pv 10) pe_non (nomark _)) (pss_one (ps_ret (pe_lst (pa_cons (pe_cmpR op_eq (pe_ix ix_list (pv 9) pe_int (fun _ _ => rfl)) pe_str (by rfl)) (pa_cons pe_non pa_nil))))) pss_nil))))) (pss_one (ps_if (pt_cmpR op_eq (pv 5) pe_int (nomark _)) (pss_one (ps_ret (pe_lst (pa_cons (pe_cmpR (op_eqSame (u64 hr)) (pe_lamSN (T := NTs Pt) (k := 12) (by rfl) T.law_heard.g T.law_heard.F T.law_heard.b sc_law_heard rfl (by first | exact Or.inl rfl | exact Or.inr (Or.inl rfl)) (heard_gives T rfl rfl) TB1 hcd1 ntm1 (nt_u1 hD) (hr.mono (by decide)) (LamX.lamS_by (sc := defScope s_law_change) (by decide +kernel)) rfl (fun _ _ _ _ _ => rfl)
        (fun A outer s H E f c2 hr => (pe_meth0 (pv 1) T.cl_Desk T.Desk_swap.m (ok_Desk_swap T) (hr.mono (by decide)) T.Desk_swap.b .nil pass0))) (pe_lst (pa_cons pe_str (pa_cons pe_non pa_nil))) (by rfl)) (pa_cons (pe_tup (pa_cons (pv 3) (pa_cons (pv 2) pa_nil))) pa_nil))))) (pss_one (ps_if (pt_cmpR op_gt (pe_callB (cr_lenOwn (FnOkG.of (ok_Machine_len T)) (hr.mono (by decide)) hG T.Machine_len.b T.Machine_len.m) (by rfl) T.b_len PySem.boot_len (pa_cons (pv 2) pa_nil)) pe_int (nomark _)) (pss_one (ps_ret (pe_lst (pa_cons pe_bl (pa_cons pe_non pa_nil))))) (pss_cons (ps_set (i := 13) sc_law_change.nd rfl (by first | exact Or.inl rfl | exact Or.inr rfl) (pe_call (ok_law_machine T) (hr.mono (by decide)) (by rfl) T.law_machine.g T.law_machine.F.kp T.law_machine.b .nil pass0 (pa_cons (pv 0) (pa_cons (pe_prop (pv 2) T.cl_Machine T.Machine_letters.p (ok_Machine_letters T) (hr.mono (by decide)) T.Machine_letters.b .nil pass0 rfl) (pa_cons pe_int pa_nil)))))
      (pss_cons (ps_set (i := 14) sc_law_change.nd rfl (by first | exact Or.inl rfl | exact Or.inr rfl) (pe_ifExp (pt_cmpR op_eq (pv 5) pe_int (nomark _)) (pe_glob (v := .ref T.f_law_joined) rfl T.law_joined.g rfl) (pe_glob (v := .ref T.f_law_cut) rfl T.law_cut.g rfl)))
      (pss_cons (ps_set (i := 9) sc_law_change.nd rfl (by first | exact Or.inl rfl | exact Or.inr rfl) (pe_lamSN (T := NTs Pt) (k := 12) (by rfl) T.law_heard.g T.law_heard.F T.law_heard.b sc_law_heard rfl (by first | exact Or.inl rfl | exact Or.inr (Or.inl rfl)) (heard_gives T rfl rfl) TB1 hcd1 ntm1 (nt_u1 hD) (hr.mono (by decide)) (LamX.lamS_by (sc := defScope s_law_change) (by decide +kernel)) rfl (fun _ _ _ _ _ => rfl)
        (fun A outer s H E f c2 hr => (pe_callV (pv 14) (ok_law_joined T) (hr.mono (by decide)) T.law_joined.F.kp T.law_joined.b (ok_law_cut T) (hr.mono (by decide)) T.law_cut.F.kp T.law_cut.b (passes_call (takes_of rfl rfl rfl rfl) (fun _ _ _ _ h => h)) (pa_cons (pv 1) (pa_cons (pv 13) pa_nil))))))
      (pss_one (ps_ret (pe_lst (pa_cons (pe_cmpR (op_eqSame (u64 hr)) (pv 9) (pe_lst (pa_cons pe_str (pa_cons pe_non pa_nil))) (by rfl)) (pa_cons (pe_tup (pa_cons (pe_ifExp (pt_cmpR op_eq (pv 5) pe_int (nomark _)) (pe_op (op_ownA (op := .BitOr) (ok_Machine_orA T) (hr.mono (by decide)) T.Machine_or.b T.Machine_or.m T.sfM (noneIn_eq (Bool.and_eq_true_iff.mp T.nrM).1) passE0) (pv 2) (pv 13)) (pe_op (op_ownA (op := .Sub) (ok_Machine_subA T) (hr.mono (by decide)) T.Machine_sub.b T.Machine_sub.m T.sfM (noneIn_eq (Bool.and_eq_true_iff.mp T.nrM).2) passE0) (pv 2) (pv 13))) (pa_cons (pv 3) pa_nil))) pa_nil)))))))))))))))
      (pss_one (ps_ret (pe_lst (pa_cons (pe_cmpR (op_eqSame (u64 hr)) (pv 9) (pe_lst (pa_cons pe_str (pa_cons pe_non pa_nil))) (by rfl)) (pa_cons (pe_ifExp (pt_cmpR op_eq (pv 4) pe_int (nomark _)) (pe_tup (pa_cons (pv 10) (pa_cons (pv 3) pa_nil))) (pe_tup (pa_cons (pv 2) (pa_cons (pv 10) pa_nil)))) pa_nil)))))))), ?_⟩
    try dsimp only [cxOf]
    have hx := hA.two.mx.same hide_le
    have hy := hA.two.my.same hide_le
    refine ⟨_, rfl, a, 2, rfl, hA.pot, by decide, by decide, fun H1 wh hwh hp1 ho1 => ⟨_, rfl, a, 5, rfl, hp1, by decide, by decide, fun H2 kd hkd hp2 ho2 => ⟨_, _, rfl, ?_⟩⟩⟩
    obtain ⟨b, rfl⟩ := wI_of hwh
    have A2 := (hA.off hp1 ho1).off hp2 ho2
    have o02 := ho1.trans ho2
    dsimp only
    refine ⟨_, rfl, _, rfl, by show 2 ≤ sizeLine; decide, fun La na => ⟨_, rfl, La, _, _, _, rfl, rfl, .inl (.inl upd_same), wI_at, by show 2 ≤ sizeLine; decide, fun Lb nb => ⟨_, rfl, Lb, _, _, _, rfl, rfl, .inl (.inl upd_same), wI_at, by show 2 ≤ sizeLine; decide, fun Lt nt => ?_⟩⟩⟩
    rw [pick_ref, pick_str]
    have s25 := (same_upd (o := .lst [.ref x, .ref y]) na).trans ((same_upd (o := .lst [.str "one", .str "other"]) nb).trans (same_upd (o := .tup [.ref (pick2 b x y), .str (wS b)]) nt))
    have hLt : upd (upd (upd H2 La (.lst [.ref x, .ref y])) Lb (.lst [.str "one", .str "other"])) Lt (.tup [.ref (pick2 b x y), .str (wS b)]) Lt = _ := upd_same
    refine ⟨Lt, _, rfl, .inl (.inl hLt), rfl, _, _, rfl, _, _, rfl, rfl, ?_⟩
    generalize upd (upd (upd H2 La (.lst [.ref x, .ref y])) Lb (.lst [.str "one", .str "other"])) Lt (.tup [.ref (pick2 b x y), .str (wS b)]) = H5 at *
    have A5 := A2.same s25
    have hth := (pick_m b A5.two.mx A5.two.my).same hide_le
    obtain ⟨dth, rth, qth, hatth, _⟩ := id hth.at_
    have hthne := hth.good.ne
    have hthf := hth.good.few
    refine ⟨_, rfl, _, rfl, pick2 b x y, dth, _, rfl, hatth, _, sg, _, _, rfl, hth, (pick2 b one other).1.length, rfl, sz (by omega), a, (pick2 b one other).1.length, rfl, A5.pot, hthne, by omega, fun H6 pl hpl hp6 ho6 => ?_⟩
    have A6 := A5.off hp6 ho6
    have o06 : Off a H H6 := o02.trans ((Off.of s25).trans ho6)
    have k06 : Kp [a] H H6 := o06.kp List.mem_cons_self
    have kd2 : Kp [a, d] H H6 := o06.kp (by simp)
    dsimp only [gName]
    refine seq_to (join (fun σ' H' => ∃ (told xb : Addr) (m : MV) (s11 s12 : Option V), σ' = [some (.ref a), some (.ref d), some (.ref x), some (.ref y), some (.int ((wI b : Nat) : Int)), some (.int (kd : Int)), some (.ref (pick2 b x y)), some (.str (wS b)), some (.int (pl : Int)), some (.ref told), some (.ref xb), s11, s12, none, none] ∧
      Kp [a, d] H H' ∧ H' told = some (.lst [.str "told", .non]) ∧ Beh T Pt l H' a d x y sg one other (pick2 b m one) (pick2 b other m) (past ++ [(one, other)]) ∧ MachV T.C_Machine K (hide l H') xb sg m ∧ m.1.length ≤ 6) (fun N hN => ?_) (fun σ' H' p => ?_))
    · refine ⟨_, rfl, rfl, _, rfl, ?_⟩
      by_cases hk0 : kd = 0
      · subst hk0
        refine ite_t rfl ?_
        refine ⟨A6.tabs, fun H7 e7 T7 E Qv hE hQ => ?_⟩
        have A7 := A6.ext e7 T7
        obtain ⟨dd7, a7, b7, p7, ts7, hd7, _⟩ := id A7.two.desk.ex
        refine ⟨_, rfl, d, dd7, _, rfl, hd7, rfl, _, rfl, _, rfl, l, d, _, _, .str (wS b), .int (pl : Int), sg, one, other, past, rfl, A7.dl, A7.loose, A7.two.desk, A7.few, .data (.str _), .data (.int _), .inr ⟨b, rfl, .inr ⟨pl, rfl, hpl, fun H8 s8 hD8 => hQ H8 .non fun p np => ?_⟩⟩⟩
        obtain ⟨B8, k8⟩ := A7.dsk s8 hD8
        have s9 := same_upd (o := .lst [.str "told", .non]) np
        have hp9 := upd_same (H := H8) (a := p) (o := .lst [.str "told", .non])
        generalize upd H8 p (.lst [.str "told", .non]) = H9 at *
        have B9 := B8.same s9
        refine ⟨_, rfl, _, rfl, pick2 b x y, pl, sg, _, _, rfl, (pick_m b B9.mx B9.my).same hide_le, fun H10 xb s10 n10 hM10 => ⟨_, _, rfl, hN _ _ ⟨p, xb, (_, _), none, none, rfl, ?_, s10 _ _ hp9, B9.same s10, mach_new B9.loose s10 n10 hM10, ?_⟩⟩⟩
        · exact kd2.trans ((Kp.ext e7).trans (k8.trans ((Kp.same s9).trans (Kp.same s10))))
        · cases b; exact h6'; exact h6
      refine ite_f (decide_eq_false (by simpa using hk0)) ?_
      refine ⟨_, rfl, rfl, _, rfl, ?_⟩
      by_cases hk1 : kd = 1
      · subst hk1
        refine ite_t rfl ?_
        have hx6 := A6.two.mx.same hide_le
        obtain ⟨dx6, r6, q6, hxt6, _⟩ := id hx6.at_
        have hsn := hx.lets.ne
        have hsf := hx.lets.few
        refine ⟨_, rfl, _, rfl, x, dx6, _, rfl, hxt6, x, sg, _, _, rfl, hx6, sg, rfl, sz (by omega), a, sg.length, rfl, A6.pot, hsn, by omega, fun H7 lt hlt hp7 ho7 => ?_⟩
        have A7 := A6.off hp7 ho7
        have hth7 := (pick_m b A7.two.mx A7.two.my).same hide_le
        obtain ⟨dth7, rth7, qth7, hatth7, _⟩ := id hth7.at_
        refine ⟨_, rfl, _, rfl, pick2 b x y, dth7, _, rfl, hatth7, _, sg, _, _, rfl, hth7, (pick2 b one other).1.length, rfl, sz (by omega), a, (pick2 b one other).1.length, rfl, A7.pot, hthne, by omega, fun H8 gl hgl hp8 ho8 => ?_⟩
        have A8 := A7.off hp8 ho8
        refine ⟨by show 2 ≤ sizeLine; decide, fun Lu nu => ?_⟩
        have su := same_upd (o := .tup [.int (lt : Int), .int (gl : Int)]) nu
        refine ⟨Lu, _, rfl, .inl (.inl upd_same), rfl, _, _, rfl, _, _, rfl, rfl, ?_⟩
        have A9 := A8.same su
        generalize upd H8 Lu (.tup [.int (lt : Int), .int (gl : Int)]) = H9 at *
        have o69 : Off a H6 H9 := ho7.trans (ho8.trans (Off.of su))
        obtain ⟨c, hc⟩ : ∃ c, sg[lt]? = some c := ⟨sg[lt], List.getElem?_eq_getElem hlt⟩
        have hcm := List.mem_of_getElem? hc
        have hidx := idx_nd hx.lets.nd hc
        refine ⟨A9.tabs, fun H10 e10 T10 E Qv hE hQ => ?_⟩
        have A10 := A9.ext e10 T10
        obtain ⟨dd7, a7, b7, p7, ts7, hd7, _⟩ := id A10.two.desk.ex
        have hx10 := A10.two.mx.same hide_le
        obtain ⟨dx10, r10, q10, hxt10, _⟩ := id hx10.at_
        refine ⟨_, rfl, d, dd7, _, rfl, hd7, rfl, _, rfl, _, rfl, _, rfl, x, dx10, _, rfl, hxt10, x, sg, _, _, rfl, hx10, _, rfl, sg, lt, c, rfl, rfl, sz (by omega), hc, _, rfl, ?_⟩
        refine ⟨l, d, _, _, _, _, .str (wS b), .int (pl : Int), .str (tS [c]), .int (gl : Int), sg, one, other, past, rfl, A10.dl, A10.loose, A10.two.desk, A10.few, .data (.str _), .data (.int _), .data (.str _), .data (.int _), by show 1 ≤ 1000; decide, .inr ⟨b, rfl, .inr (.inr (.inr ⟨pl, c, gl, rfl, rfl, rfl, hpl, hcm, hgl, fun hG H11 s11 hD11 => hQ H11 .non fun p np => ?_, fun p' hp' hno hal H11 e11 s11 he11 => hE H11 _ _ (.lost (.int (p' : Int))) ⟨e11, rfl, rfl, he11⟩ fun p np => ?_⟩))⟩⟩
        · obtain ⟨B8, k8⟩ := A10.dsk s11 hD11
          have s9 := same_upd (o := .lst [.str "told", .non]) np
          have hp9 := upd_same (H := H11) (a := p) (o := .lst [.str "told", .non])
          generalize upd H11 p (.lst [.str "told", .non]) = H12 at *
          have B9 := B8.same s9
          rw [hidx] at hG B9
          refine ⟨_, rfl, _, rfl, _, rfl, _, rfl, pick2 b x y, pl, lt, gl, sg, _, _, rfl, (pick_m b B9.mx B9.my).same hide_le, hpl, hlt, hgl, fun _ H13 xb s13 n13 hM13 => ?_, fun z => absurd hG z⟩
          refine ⟨_, rfl, rfl, false, congrArg V.bl (decide_eq_false (fun z => by cases z)), iteF ?_⟩
          refine hN _ _ ⟨p, xb, (_, _), _, _, rfl, ?_, s13 _ _ hp9, B9.same s13, mach_new B9.loose s13 n13 hM13, ?_⟩
          · exact kd2.trans ((o69.kp (by simp)).trans ((Kp.ext e10).trans (k8.trans ((Kp.same s9).trans (Kp.same s13)))))
          · rw [M74.rd_len]
            cases b; exact h6'; exact h6
        · have s9 := same_upd (o := .lst (outL (.lost (.int (p' : Int))))) np
          have hp9 := upd_same (H := H11) (a := p) (o := .lst (outL (.lost (.int (p' : Int)))))
          generalize upd H11 p (.lst (outL (.lost (.int (p' : Int))))) = H12 at *
          have A12 := A10.same (s11.trans s9)
          rw [hidx] at hno
          refine ⟨_, rfl, _, rfl, _, rfl, _, rfl, pick2 b x y, pl, lt, gl, sg, _, _, rfl, (pick_m b A12.two.mx A12.two.my).same hide_le, hpl, hlt, hgl, fun hG => absurd (hG.all p' (by rw [M74.rd_len]; exact hp')) hno, fun _ H13 s13 => ?_⟩
          refine ⟨_, rfl, rfl, true, rfl, iteT ?_⟩
          refine ⟨_, rfl, p, _, _, _, rfl, rfl, .inl (.inl (s13 _ _ hp9)), rfl, rfl, by show 2 ≤ sizeLine; decide, fun r nr => ?_⟩
          have s14 := s13.trans (same_upd (o := .lst [.bl true, .non]) nr)
          have A14 := A12.same s14
          refine qN _ r ?_ A14.tabs A14.pot upd_same
          exact k06.trans ((o69.kp List.mem_cons_self).trans ((Kp.ext e10).trans ((Kp.same (s11.trans s9)).trans (Kp.same s14))))
      refine ite_f (decide_eq_false (fun z => hk1 (by have := V.int.inj z; omega))) ?_
      refine ⟨_, rfl, rfl, _, rfl, ?_⟩
      by_cases hk2 : kd = 2
      · subst hk2
        refine ite_t rfl ?_
        refine ⟨A6.tabs, fun H7 e7 T7 E Qv hE hQ => ?_⟩
        have A7 := A6.ext e7 T7
        obtain ⟨dd7, a7, b7, p7, ts7, hd7, _⟩ := id A7.two.desk.ex
        refine ⟨_, rfl, d, dd7, _, rfl, hd7, rfl, l, d, sg, one, other, past, rfl, A7.dl, A7.loose, A7.two.desk, A7.few, fun H8 s8 hD8 => hQ H8 .non fun p np => ?_⟩
        obtain ⟨B8, k8⟩ := A7.dsk s8 hD8
        have s9 := same_upd (o := .lst [.str "told", .non]) np
        have hp9 := upd_same (H := H8) (a := p) (o := .lst [.str "told", .non])
        generalize upd H8 p (.lst [.str "told", .non]) = H9 at *
        refine ⟨by show 2 ≤ sizeLine; decide, fun r nr => ?_⟩
        have s10 := same_upd (o := .lst [.str "told", .non]) nr
        refine ⟨p, r, _, rfl, rfl, s10 _ _ hp9, upd_same, told_ok, fun H11 s11 => ?_⟩
        refine ⟨_, rfl, _, rfl, by show 2 ≤ sizeLine; decide, fun t nt => ⟨by show 2 ≤ sizeLine; decide, fun z nz => ?_⟩⟩
        have st := same_upd (o := .tup [.ref y, .ref x]) nt
        have sz' := same_upd (o := .lst [.bl true, .ref t]) nz
        have s813 := s9.trans (s10.trans (s11.trans (st.trans sz')))
        have B13 := B8.same s813
        have s8t := s9.trans (s10.trans s11)
        refine qS _ z t y x other one (kd2.trans ((Kp.ext e7).trans (k8.trans (Kp.same s813)))) upd_same (sz' _ _ upd_same) ((B8.same s8t).loose.out nt) ⟨B13.pot, B13.loose, B13.tabs, B13.desk, B13.my, B13.mx⟩ h6' h6
      refine ite_f (decide_eq_false (fun z => hk2 (by have := V.int.inj z; omega))) ?_
      have hx6 := A6.two.mx.same hide_le
      obtain ⟨dx6, r6, q6, hxt6, _⟩ := id hx6.at_
      have hxf := hx6.good.few
      refine ⟨_, rfl, x, dx6, _, rfl, hxt6, x, sg, _, _, rfl, hx6, one.1.length, rfl, sz (by omega), _, _, rfl, rfl, _, rfl, ?_⟩
      by_cases h3 : 3 < one.1.length
      · refine ite_t (decide_eq_true (by omega)) ?_
        refine ⟨by show 2 ≤ sizeLine; decide, fun r nr => ?_⟩
        have s14 := same_upd (o := .lst [.bl true, .non]) nr
        have A14 := A6.same s14
        exact qN _ r (k06.trans (Kp.same s14)) A14.tabs A14.pot upd_same
      refine ite_f (decide_eq_false (by omega)) ?_
      refine ⟨_, rfl, _, rfl, x, dx6, _, rfl, hxt6, x, sg, _, _, rfl, hx6, a, sg, 2, rfl, A6.pot, hx6.lets, by decide, by decide, fun H7 mr R7 k7 hl7 hp7 ho7 n7 hM7 => ?_⟩
      have A7 := A6.off hp7 ho7
      have kd7 : Kp [a, d] H H7 := kd2.trans (ho7.kp (by simp))
      have hmul : one.1.length * R7.length ≤ 6 := by
        have := Nat.mul_le_mul (Nat.le_of_not_lt h3) hl7
        omega
      by_cases hk3 : kd = 3
      · subst hk3
        refine ⟨_, rfl, rfl, _, rfl, ite_t rfl ?_⟩
        refine ⟨A7.tabs, fun H8 e8 T8 E Qv hE hQ => ?_⟩
        have A8 := A7.ext e8 T8
        obtain ⟨dd7, a7, b7, p7, ts7, hd7, _⟩ := id A8.two.desk.ex
        refine ⟨_, rfl, .inl ⟨rfl, _, rfl, _, rfl, l, d, _, sg, one, other, past, rfl, A8.dl, A8.loose, A8.two.desk, A8.few, .inl ⟨mr, (R7, k7), rfl, hM7.ext e8, Nat.le_trans hmul (by decide), fun H9 s9 hD9 => hQ H9 .non fun p np => ?_⟩⟩⟩
        obtain ⟨B9, k9⟩ := A8.dsk s9 hD9
        have s10 := same_upd (o := .lst [.str "told", .non]) np
        have hp10 := upd_same (H := H9) (a := p) (o := .lst [.str "told", .non])
        generalize upd H9 p (.lst [.str "told", .non]) = H10 at *
        refine ⟨_, rfl, by show 2 ≤ sizeLine; decide, fun r nr => ?_⟩
        have s11 := same_upd (o := .lst [.str "told", .non]) nr
        refine ⟨p, r, _, rfl, rfl, s11 _ _ hp10, upd_same, told_ok, fun H12 s12 => ?_⟩
        have s912 := s10.trans (s11.trans s12)
        have B12 := B9.same s912
        have hmx : Mach T.C_Machine K H12 mr sg R7 k7 := (((hM7.hid (l := [d]) (fun b m => by rw [List.mem_singleton.mp m]; exact A7.two.desk.loose) (fun m => by
          obtain ⟨dq, rq, qq, hq, _⟩ := id hM7.at_
          obtain ⟨dd8, _, _, _, _, hd8, _⟩ := id A7.two.desk.ex
          obtain ⟨dd6, _, _, _, _, hd6, _⟩ := id A6.two.desk.ex
          rw [List.mem_singleton.mp m, hd6] at n7
          cases n7)).ext ((Kp.ext e8).trans ((Kp.of_hide s9).trans (Kp.same s912))).hide)).same hide_le
        have hx12 := B12.mx.same hide_le
        obtain ⟨dx12, r12, q12, hxt12, _⟩ := id hx12.at_
        obtain ⟨dm12, rm12, qm12, hmt12, _⟩ := id hmx.at_
        refine ⟨_, rfl, rfl, _, rfl, ite_t rfl ?_⟩
        refine ⟨_, rfl, _, rfl, x, dx12, _, rfl, hxt12, .inl ⟨mr, dm12, _, rfl, hmt12⟩, x, _, sg, _, _, rfl, hx12, .inl ⟨mr, R7, k7, rfl, hmx, Nat.le_trans hmul (by decide), fun H13 xn s13 n13 hM13 => ⟨xn, rfl, ?_⟩⟩⟩
        refine ⟨_, rfl, by show 2 ≤ sizeLine; decide, fun t nt => ⟨by show 2 ≤ sizeLine; decide, fun z nz => ?_⟩⟩
        have st := same_upd (o := .tup [.ref xn, .ref y]) nt
        have sz' := same_upd (o := .lst [.bl true, .ref t]) nz
        have B15 := B12.same (s13.trans (st.trans sz'))
        have hxn := (mach_new B12.loose s13 n13 hM13).ext (Kp.same (l := l) (st.trans sz')).hide
        exact qS _ z t xn y (_, _) other (kd7.trans ((Kp.ext e8).trans (k9.trans (Kp.same (s912.trans (s13.trans (st.trans sz'))))))) upd_same (sz' _ _ upd_same) ((B12.same s13).loose.out nt) ⟨B15.pot, B15.loose, B15.tabs, B15.desk, hxn, B15.my⟩ (Nat.le_trans (M16.pair_len (sg := sg) hx12.good.toSht hmx.good.toSht (Nat.le_trans hmul (by decide))) hmul) h6'
      · have hk3' : decide (V.int (kd : Int) = V.int 3) = false := decide_eq_false fun z => hk3 (by have := V.int.inj z; omega)
        refine ⟨_, rfl, rfl, _, rfl, ite_f hk3' ?_⟩
        refine ⟨A7.tabs, fun H8 e8 T8 E Qv hE hQ => ?_⟩
        have A8 := A7.ext e8 T8
        obtain ⟨dd7, a7, b7, p7, ts7, hd7, _⟩ := id A8.two.desk.ex
        refine ⟨_, rfl, .inr ⟨rfl, _, rfl, _, rfl, l, d, _, sg, one, other, past, rfl, A8.dl, A8.loose, A8.two.desk, A8.few, .inl ⟨mr, (R7, k7), rfl, hM7.ext e8, Nat.le_trans hmul (by decide), fun H9 s9 hD9 => hQ H9 .non fun p np => ?_⟩⟩⟩
        obtain ⟨B9, k9⟩ := A8.dsk s9 hD9
        have s10 := same_upd (o := .lst [.str "told", .non]) np
        have hp10 := upd_same (H := H9) (a := p) (o := .lst [.str "told", .non])
        generalize upd H9 p (.lst [.str "told", .non]) = H10 at *
        refine ⟨_, rfl, by show 2 ≤ sizeLine; decide, fun r nr => ?_⟩
        have s11 := same_upd (o := .lst [.str "told", .non]) nr
        refine ⟨p, r, _, rfl, rfl, s11 _ _ hp10, upd_same, told_ok, fun H12 s12 => ?_⟩
        have s912 := s10.trans (s11.trans s12)
        have B12 := B9.same s912
        have hmx : Mach T.C_Machine K H12 mr sg R7 k7 := (((hM7.hid (l := [d]) (fun b m => by rw [List.mem_singleton.mp m]; exact A7.two.desk.loose) (fun m => by
          obtain ⟨dq, rq, qq, hq, _⟩ := id hM7.at_
          obtain ⟨dd8, _, _, _, _, hd8, _⟩ := id A7.two.desk.ex
          obtain ⟨dd6, _, _, _, _, hd6, _⟩ := id A6.two.desk.ex
          rw [List.mem_singleton.mp m, hd6] at n7
          cases n7)).ext ((Kp.ext e8).trans ((Kp.of_hide s9).trans (Kp.same s912))).hide)).same hide_le
        have hx12 := B12.mx.same hide_le
        obtain ⟨dx12, r12, q12, hxt12, _⟩ := id hx12.at_
        obtain ⟨dm12, rm12, qm12, hmt12, _⟩ := id hmx.at_
        refine ⟨_, rfl, rfl, _, rfl, ite_f hk3' ?_⟩
        refine ⟨_, rfl, _, rfl, x, dx12, _, rfl, hxt12, .inl ⟨mr, dm12, _, rfl, hmt12⟩, x, _, sg, _, _, rfl, hx12, .inl ⟨mr, R7, k7, rfl, hmx, Nat.le_trans hmul (by decide), fun H13 xn s13 n13 hM13 => ⟨xn, rfl, ?_⟩⟩⟩
        refine ⟨_, rfl, by show 2 ≤ sizeLine; decide, fun t nt => ⟨by show 2 ≤ sizeLine; decide, fun z nz => ?_⟩⟩
        have st := same_upd (o := .tup [.ref xn, .ref y]) nt
        have sz' := same_upd (o := .lst [.bl true, .ref t]) nz
        have B15 := B12.same (s13.trans (st.trans sz'))
        have hxn := (mach_new B12.loose s13 n13 hM13).ext (Kp.same (l := l) (st.trans sz')).hide
        exact qS _ z t xn y (_, _) other (kd7.trans ((Kp.ext e8).trans (k9.trans (Kp.same (s912.trans (s13.trans (st.trans sz'))))))) upd_same (sz' _ _ upd_same) ((B12.same s13).loose.out nt) ⟨B15.pot, B15.loose, B15.tabs, B15.desk, hxn, B15.my⟩ (Nat.le_trans (M16.pair_len (sg := sg) hx12.good.toSht hmx.good.toSht (Nat.le_trans hmul (by decide))) hmul) h6'
    · obtain ⟨told, xb, m, s11, s12, rfl, k7, ht, B7, hxb, hm⟩ := p
      refine ⟨_, rfl, by show 2 ≤ sizeLine; decide, fun r nr => ?_⟩
      have s8 := same_upd (o := .lst [.str "told", .non]) nr
      refine ⟨told, r, _, rfl, rfl, s8 _ _ ht, upd_same, told_ok, fun H9 s9 => ?_⟩
      have s79 := s8.trans s9
      have B9 := B7.same s79
      have hxb9 := hxb.ext (Kp.same (l := l) s79).hide
      refine ⟨_, rfl, rfl, _, rfl, ?_⟩
      cases b with
      | true =>
        refine ite_t rfl ?_
        refine ⟨_, rfl, _, rfl, by show 2 ≤ sizeLine; decide, fun t nt => ⟨by show 2 ≤ sizeLine; decide, fun z nz => ?_⟩⟩
        have st := same_upd (o := .tup [.ref xb, .ref y]) nt
        have sz' := same_upd (o := .lst [.bl true, .ref t]) nz
        have B11 := B9.same (st.trans sz')
        have hxb11 := hxb9.ext (Kp.same (l := l) (st.trans sz')).hide
        exact qS _ z t xb y m other (k7.trans (Kp.same (s79.trans (st.trans sz')))) upd_same (sz' _ _ upd_same) (B9.loose.out nt) ⟨B11.pot, B11.loose, B11.tabs, B11.desk, hxb11, B11.my⟩ hm h6'
      | false =>
        refine ite_f rfl ?_
        refine ⟨_, rfl, _, rfl, by show 2 ≤ sizeLine; decide, fun t nt => ⟨by show 2 ≤ sizeLine; decide, fun z nz => ?_⟩⟩
        have st := same_upd (o := .tup [.ref x, .ref xb]) nt
        have sz' := same_upd (o := .lst [.bl true, .ref t]) nz
        have B11 := B9.same (st.trans sz')
        have hxb11 := hxb9.ext (Kp.same (l := l) (st.trans sz')).hide
        exact qS _ z t x xb one m (k7.trans (Kp.same (s79.trans (st.trans sz')))) upd_same (sz' _ _ upd_same) (B9.loose.out nt) ⟨B11.pot, B11.loose, B11.tabs, B11.desk, B11.mx, hxb11⟩ h6 hm
end
end Lw
namespace Lw
open PySem PySem.Spec PyProof.Rows L3 NdefX
open L2 hiding del del_same del_ne
theorem kbn2 {K : PySem.W.Frag} {x qual n m : Str} {st : Stmt} {f : Addr} {fd : FuncData} (F : Fun K x qual st f fd)
    (h : ∀ (kV doc pm : Value) (an : Option Addr) (cdv ct s w v : Value), bindArgs (PySem.W.fnOf x qual (defArgs st) (defBody st) (defScope st) .none kV doc pm an cdv ct) ⟨[s], [(m, w), (n, v)]⟩ = pure [(("self" : Str), s), (n, v), (m, w)]) : KBn K fd ["self", n, m] 1 [m, n] mk2 mk2 := by
  refine ⟨fun s us ws X hl hw => ?_, mk2_rel⟩
  obtain ⟨oc, od, kV, doc, pm, an, cdv, ct, osl, rfl, lk, hcd⟩ := F.ex
  match us, ws, hl, hw with
  | [a], [w, v], _, _ => exact .of_eq (h kV doc pm an cdv ct a w v)
section
variable {w : World} {K : PySem.W.Frag} {mg : Str → Option Value} {base : Heap} {Pt : Nat → Addr} {c0 c1 c2 : Addr}
theorem spk_len {sg : List Nat} {R : List (List Nat)} {k : List Bool} (hl : Lets sg) (h : M14.Sht sg.length R k) : (spk sg R k).length ≤ 50000 := by
  have l1 : (reprText (tS sg)).length ≤ 46 := shownLen (wt_sg hl)
  have l2 := shownLen (wt_dLR h hl.few)
  have l3 := shownLen (wt_kinds h)
  have c1 : ("Machine(" : Str).length = 8 := by decide +kernel
  have c2 : (", " : Str).length = 2 := by decide +kernel
  have c3 : (")" : Str).length = 1 := by decide +kernel
  unfold spk
  rw [strLen_append, strLen_append, strLen_append, strLen_append, strLen_append, strLen_append]
  omega
theorem list2_len (t u : Str) : (listText [t, u]).length ≤ t.length + u.length + 100 := by
  have c1 : ("[" : Str).length = 1 := by decide +kernel
  have c2 : (", " : Str).length = 2 := by decide +kernel
  have c3 : ("]" : Str).length = 1 := by decide +kernel
  unfold listText
  have c0 : ("" : Str).length = 0 := by decide +kernel
  simp only [textFrom]
  show (((((("[" : Str) ++ ("" : Str)) ++ t) ++ (", " : Str)) ++ u) ++ ("]" : Str)).length ≤ _
  rw [strLen_append, strLen_append, strLen_append, strLen_append, strLen_append]
  omega
theorem krM (T : All K mg) {H : Hp} {t : Addr} {sg : List Nat} {R : List (List Nat)} {k : List Bool} (hM : Mach T.C_Machine K H t sg R k) : ∀ H', Same H H' → (∃ dx fs, H' t = some (.ins T.C_Machine dx fs)) ∧ spRepr K T.C_Machine [.ref t] H' (fun v H'' => v = .str (spk sg R k) ∧ Same H' H'') E0 := fun H' s' => by
  obtain ⟨dx, r, qq, hat, _⟩ := (hM.same s').at_
  exact ⟨⟨_, _, hat⟩, t, sg, R, _, rfl, hM.same s', fun H'' s'' => ⟨rfl, s''⟩⟩
theorem all2 {α β : Type} {Pr : α → β → Prop} {a b : α} {x y : β} (h1 : Pr a x) (h2 : Pr b y) : ∀ (i : Nat) u v, [a, b][i]? = some u → [x, y][i]? = some v → Pr u v
  | 0, _, _, e1, e2 => by cases e1; cases e2; exact h1
  | 1, _, _, e1, e2 => by cases e1; cases e2; exact h2
  | n + 2, _, _, e1, e2 => by simp at e1
theorem atLastA (ts : List Addr) (t : Addr) : atI ((ts ++ [t]).map V.ref) (-1) = some (.ref t) := by
  rw [List.map_append]
  exact atLast _ _
theorem none_ok : ∀ v ∈ outL .nothing, OkE v := fun v hv => by
  simp only [outL, List.mem_cons, List.not_mem_nil, or_false] at hv
  rcases hv with rfl | rfl <;> exact .inl rfl
/-- the law's own list of pairs beside the desk -/
structure Lp (T : All K mg) (Pt : Nat → Addr) (l : List Addr) (H : Hp) (a d P : Addr) (sg : List Nat) (one other : MV) (past : List (MV × MV)) (N : Nat) : Prop where
  pot : Pot H a
  al : a ∈ l
  dl : d ∈ l
  pl : P ∈ l
  ne : d ≠ a
  nP : P ≠ a
  nD : P ≠ d
  loose : LooseL l H
  desk : DeskS T.C_Machine T.C_Desk K l H d sg one other past
  few : past.length ≤ N
  tabs : TabsN (NTs Pt) H
  six : ∀ pr ∈ past ++ [(one, other)], pr.1.1.length ≤ 6 ∧ pr.2.1.length ≤ 6
  lst : ∃ ts, H P = some (.lst (ts.map V.ref)) ∧ PastS T.C_Machine K (hide l H) sg ts (past ++ [(one, other)])
/-- the last pair -/
theorem Lp.last {T : All K mg} {l : List Addr} {H : Hp} {a d P : Addr} {sg : List Nat} {one other : MV} {past : List (MV × MV)} {N : Nat} (h : Lp T Pt l H a d P sg one other past N) (hN : N ≤ 1000) :
    ∃ ts t u v, H P = some (.lst ((ts ++ [t]).map V.ref)) ∧ H t = some (.tup [.ref u, .ref v]) ∧ PastS T.C_Machine K (hide l H) sg (ts ++ [t]) (past ++ [(one, other)]) ∧ Ask T Pt l H a d u v sg one other past := by
  obtain ⟨ts, h1, h2⟩ := h.lst
  obtain ⟨ts0, t, rfl⟩ : ∃ ts0 t, ts = ts0 ++ [t] := by
    have hne : ts ≠ [] := fun z => by have := h2.len; rw [z] at this; simp at this
    exact ⟨ts.dropLast, ts.getLast hne, (List.dropLast_concat_getLast hne).symm⟩
  obtain ⟨_, u, v, ht, hu, hv⟩ := h2.cut
  exact ⟨ts0, t, u, v, h1, hide_le _ _ ht, h2, ⟨h.pot, h.al, h.dl, h.ne, h.loose, ⟨h.desk, hu, hv⟩, Nat.le_trans h.few hN, h.tabs⟩⟩
theorem Lp.keep {T : All K mg} {l : List Addr} {H H' : Hp} {a d P : Addr} {sg : List Nat} {one other : MV} {past : List (MV × MV)} {N : Nat} (h : Lp T Pt l H a d P sg one other past N) (k : Kp [a] H H') (hp : Pot H' a) (ht : TabsN (NTs Pt) H') : Lp T Pt l H' a d P sg one other past N := by
  obtain ⟨dd, a0, b0, p0, ts0, hd, _⟩ := id h.desk.ex
  obtain ⟨ts, h1, h2⟩ := h.lst
  have kl : Kp l H H' := k.mono fun b m => by rw [List.mem_singleton.mp m]; exact h.al
  refine ⟨hp, h.al, h.dl, h.pl, h.ne, h.nP, h.nD, h.loose.kp k (fun b m => by rw [List.mem_singleton.mp m]; exact hp.loose), h.desk.keep kl (by rw [k _ _ hd (fun m => h.ne (List.mem_singleton.mp m)) (fun _ z => by cases z), hd]), h.few, ht, h.six, ts, ?_, h2.ext kl.hide⟩
  exact k _ _ h1 (fun m => h.nP (List.mem_singleton.mp m)) (fun _ z => by cases z)
theorem tabs_lst {TL : List NTab} {a : Addr} {xs : List V} {H H' : Hp} (t : TabsN TL H) (hp : H a = some (.lst xs)) (o : Off a H H') : TabsN TL H' := by
  intro p hpm
  obtain ⟨ps, h1, h2, h3⟩ := t p hpm
  refine ⟨ps, o _ _ h1 fun z => ?_, h2, fun pos cv hc => ?_⟩
  · rw [z, hp] at h1
    cases h1
  · obtain ⟨c, e1, e2⟩ := h3 pos cv hc
    refine ⟨c, e1, o _ _ e2 fun z => ?_⟩
    rw [z, hp] at e2
    cases e2
/-- the law's list is stored anew -/
theorem Lp.mkP {T : All K mg} {l : List Addr} {H : Hp} {a d P : Addr} {sg : List Nat} {one other : MV} {past : List (MV × MV)} {N : Nat} {ts : List Addr} {xs : List V} (al : a ∈ l) (dl : d ∈ l) (pl : P ∈ l) (ne : d ≠ a) (nP : P ≠ a) (nD : P ≠ d) (hp : Pot H a) (lo : LooseL l H)
    (hD : DeskS T.C_Machine T.C_Desk K l H d sg one other past) (few : past.length ≤ N) (tabs : TabsN (NTs Pt) H) (six : ∀ pr ∈ past ++ [(one, other)], pr.1.1.length ≤ 6 ∧ pr.2.1.length ≤ 6) (hP : H P = some (.lst xs)) (hS : PastS T.C_Machine K (hide l H) sg ts (past ++ [(one, other)])) {ys : List V} (hy : ys = ts.map V.ref) :
    Lp T Pt l (upd H P (.lst ys)) a d P sg one other past N := by
  subst hy
  refine ⟨?_, al, dl, pl, ne, nP, nD, fun b m => ?_, hD.keep (Kp.upd pl) (upd_ne (fun z => nD z.symm)), few, tabs_lst tabs hP (fun b o e n => by rw [upd_ne n]; exact e), six, ts, upd_same, by rw [hide_upd pl]; exact hS⟩
  · obtain ⟨u, v, e, r⟩ := hp
    exact ⟨u, v, by rw [upd_ne (fun z => nP z.symm)]; exact e, r⟩
  · by_cases z : b = P
    · subst z; exact .inl ⟨_, upd_same⟩
    · rcases lo b m with ⟨ys, h⟩ | ⟨C, dx, fs, h⟩
      · exact .inl ⟨ys, by rw [upd_ne z]; exact h⟩
      · exact .inr ⟨C, dx, fs, by rw [upd_ne z]; exact h⟩
theorem Lp.pop {T : All K mg} {l : List Addr} {H H' : Hp} {a d P x y : Addr} {sg : List Nat} {one other : MV} {pr : MV × MV} {q : List (MV × MV)} {N : Nat} (h : Lp T Pt l H a d P sg one other (q ++ [pr]) N) (B : Beh T Pt l H' a d x y sg one other pr.1 pr.2 q) (k : Kp [a, d] H H') :
    ∃ xs v, H' P = some (.lst xs) ∧ xs[xs.length - 1]? = some v ∧ Lp T Pt l (upd H' P (.lst xs.dropLast)) a d P sg pr.1 pr.2 q (N + 1) := by
  obtain ⟨ts, hP, hS⟩ := h.lst
  obtain ⟨ts0, t, rfl⟩ : ∃ ts0 t, ts = ts0 ++ [t] := by
    have hne : ts ≠ [] := fun z => by have := hS.len; rw [z] at this; simp at this
    exact ⟨ts.dropLast, ts.getLast hne, (List.dropLast_concat_getLast hne).symm⟩
  have kl : Kp l H H' := k.mono fun b m => by
    rcases List.mem_cons.mp m with rfl | m
    · exact h.al
    · rw [List.mem_singleton.mp m]; exact h.dl
  have hP' := k _ _ hP (by simp [h.nP, h.nD]) (fun _ z => by cases z)
  have hc := (hS.ext kl.hide).cut.1
  have hf := h.few
  rw [List.length_append, List.length_singleton] at hf
  refine ⟨_, .ref t, hP', by simp, Lp.mkP (ts := ts0) h.al h.dl h.pl h.ne h.nP h.nD B.pot B.loose B.desk (by omega) B.tabs (fun p m => h.six p (List.mem_append_left _ m)) hP' hc ?_⟩
  rw [List.map_append]
  exact List.dropLast_concat
theorem Lp.push {T : All K mg} {l : List Addr} {H H' : Hp} {a d P u v t : Addr} {sg : List Nat} {one other m1 m2 : MV} {past : List (MV × MV)} {N : Nat} (h : Lp T Pt l H a d P sg one other past N) (B : Beh T Pt l H' a d u v sg m1 m2 m1 m2 (past ++ [(one, other)])) (k : Kp [a, d] H H') (ht : H' t = some (.tup [.ref u, .ref v])) (tl : t ∉ l) (h1 : m1.1.length ≤ 6) (h2 : m2.1.length ≤ 6) :
    ∃ xs, H' P = some (.lst xs) ∧ xs.length ≤ N + 1 ∧ Lp T Pt l (upd H' P (.lst (xs ++ [.ref t]))) a d P sg m1 m2 (past ++ [(one, other)]) (N + 1) := by
  obtain ⟨ts, hP, hS⟩ := h.lst
  have kl : Kp l H H' := k.mono fun b m => by
    rcases List.mem_cons.mp m with rfl | m
    · exact h.al
    · rw [List.mem_singleton.mp m]; exact h.dl
  have hP' := k _ _ hP (by simp [h.nP, h.nD]) (fun _ z => by cases z)
  have hl := hS.len
  rw [List.length_append, List.length_singleton] at hl
  have hf := h.few
  refine ⟨_, hP', by rw [List.length_map]; omega, Lp.mkP (ts := ts ++ [t]) h.al h.dl h.pl h.ne h.nP h.nD B.pot B.loose B.desk (by rw [List.length_append, List.length_singleton]; omega) B.tabs (fun p m => ?_) hP' ((hS.ext kl.hide).snoc (by rw [hide_out tl]; exact ht) B.mx B.my) ?_⟩
  · rcases List.mem_append.mp m with m | m
    · exact h.six p m
    · rw [List.mem_singleton.mp m]; exact ⟨h1, h2⟩
  · rw [List.map_append]
    rfl
theorem and_if {t u : TT} {A B : TS} {D : Ends} {σ : L2.St} {H : Hp} (R : Prop) (hB : B D σ H) (h : ∀ Q : Bool → Hp → Prop, Q false H → (R → Q true H) → tAnd t u σ H Q) (hA : R → A D σ H) : tIfS (tAnd t u) A B D σ H := h _ (iteF hB) (fun r => iteT (hA r))
def spRight (Pt : Nat → Addr) : Sp := fun vs H Q _ => ∃ a, vs = [.ref a] ∧ Pot H a ∧ TabsN (NTs Pt) H ∧ ∀ H', TabsN (NTs Pt) H' → Kp [a] H H' → Q (.bl true) H'
theorem ok_law_right (T : All K mg) (hcd0 : T.d_law_refusals_right.code = .ref c0) (TB0 : LamX.TabB base mg c0 (Pt 0)) (hcd1 : T.d_law_change.code = .ref c1) (TB1 : LamX.TabB base mg c1 (Pt 1)) (hcd2 : T.d_law_right.code = .ref c2) (TB2 : LamX.TabB base mg c2 (Pt 2)) (hD : Dst Pt) :
    FnOkG PW w K mg base CX0 19 T.f_law_right T.d_law_right ["_law_pot_here"] (spRight Pt) := by
  refine okC T.law_right.F sc_law_right (fun vs H Q E h => ?_) (fun A outer s H vs Q E hr hG h => ?_)
  · obtain ⟨a, rfl, _⟩ := h
    rfl
  · obtain ⟨a, rfl, hp, hT, q⟩ := h
    refine ⟨_, pss_cons (ps_set (i := 1) sc_law_right.nd rfl (by first | exact Or.inl rfl | exact Or.inr rfl) (pe_call (ok_law_pick T) (hr.mono (by decide)) (by rfl) T.law_pick.g T.law_pick.F.kp T.law_pick.b .nil pass0 (pa_cons (pv 0) (pa_cons (pe_lst (pa_cons pe_str (pa_cons pe_str (pa_cons pe_str (pa_cons pe_str pa_nil))))) pa_nil))))
      (pss_cons (ps_asg (pe_tup (pa_cons (pe_call (ok_law_machine T) (hr.mono (by decide)) (by rfl) T.law_machine.g T.law_machine.F.kp T.law_machine.b .nil pass0 (pa_cons (pv 0) (pa_cons (pv 1) (pa_cons pe_int pa_nil)))) (pa_cons (pe_call (ok_law_machine T) (hr.mono (by decide)) (by rfl) T.law_machine.g T.law_machine.F.kp T.law_machine.b .nil pass0 (pa_cons (pv 0) (pa_cons (pv 1) (pa_cons pe_int pa_nil)))) pa_nil))) (pg_tup rfl (pgs_cons (pg_name (i := 2) sc_law_right.nd rfl (by first | exact Or.inl rfl | exact Or.inr rfl)) (pgs_cons (pg_name (i := 3) sc_law_right.nd rfl (by first | exact Or.inl rfl | exact Or.inr rfl)) pgs_nil))))
      (pss_cons (ps_asg (pe_tup (pa_cons (pe_make ⟨T.mk_Desk, T.Desk_init.m.at_, T.Desk_init.m.fn, T.kp_Desk⟩ (ok_Desk_initX T) (hr.mono (by decide)) (by rfl) T.g_Desk T.Desk_init.b .nil passE0 (pa_cons (pv 2) (pa_cons (pv 3) pa_nil))) (pa_cons (pe_makeK0 ⟨T.mk_Desk, T.Desk_init.m.at_, T.Desk_init.m.fn, T.kp_Desk⟩ (ok_Desk_initX T) (hr.mono (by decide)) (by rfl) T.g_Desk (kbn2 (n := "one") (m := "other") T.Desk_init.F (fun _ _ _ _ _ _ _ _ _ => rfl)) passE0 (pk_cons (pv 3) (pk_cons (pv 2) pk_nil))) (pa_cons (pe_lst (pa_cons (pe_tup (pa_cons (pv 2) (pa_cons (pv 3) pa_nil))) pa_nil)) pa_nil)))) (pg_tup rfl (pgs_cons (pg_name (i := 4) sc_law_right.nd rfl (by first | exact Or.inl rfl | exact Or.inr rfl)) (pgs_cons (pg_name (i := 5) sc_law_right.nd rfl (by first | exact Or.inl rfl | exact Or.inr rfl)) (pgs_cons (pg_name (i := 6) sc_law_right.nd rfl (by first | exact Or.inl rfl | exact Or.inr rfl)) pgs_nil)))))
      (pss_cons (ps_set (i := 7) sc_law_right.nd rfl (by first | exact Or.inl rfl | exact Or.inr rfl) (pe_callB (cr_reprL (k := 2) (hr.mono (by decide)) hG) (by rfl) T.b_repr (by decide +kernel) (pa_cons (pe_lst (pa_cons (pv 2) (pa_cons (pv 3) pa_nil))) pa_nil)))
      (pss_cons (ps_if (pt_cmpR (op_neSame (u64 hr)) (pe_lamSN (T := NTs Pt) (k := 12) (by rfl) T.law_heard.g T.law_heard.F T.law_heard.b sc_law_heard rfl (by first | exact Or.inl rfl | exact Or.inr (Or.inl rfl)) (heard_gives T rfl rfl) TB2 hcd2 ntm2 (nt_u2 hD) (hr.mono (by decide)) (LamX.lamS_by (sc := defScope s_law_right) (by decide +kernel)) rfl (fun _ _ _ _ _ => rfl)
        (fun A outer s H E f c2 hr => (pe_meth0 (pv 4) T.cl_Desk T.Desk_undo.m (ok_Desk_undo T) (hr.mono (by decide)) T.Desk_undo.b .nil (passes_call (takes_of rfl rfl rfl rfl) (fun _ _ _ _ h => h))))) (pe_lst (pa_cons pe_str (pa_cons pe_bl pa_nil))) (nomark _)) (pss_one ps_never) pss_nil)
      (pss_cons (ps_for PassesOwn.never rfl (pi_range1 rfl T.b_range (pa_cons pe_int pa_nil)) (pg_name (i := 8) sc_law_right.nd rfl (by first | exact Or.inl rfl | exact Or.inr rfl))
        (pss_cons (ps_set (i := 9) sc_law_right.nd rfl (by first | exact Or.inl rfl | exact Or.inr rfl) (pe_call (ok_law_draw T) (hr.mono (by decide)) (by rfl) T.law_draw.g T.law_draw.F.kp T.law_draw.b .nil pass0 (pa_cons (pv 0) (pa_cons pe_int pa_nil))))
      (pss_cons (ps_if (PW.pt (pw_and (pt_cmpR op_eq (pv 9) pe_int (nomark _)) (pw_and1 (pt_cmpR op_gt (pe_callB call_len_seq (by rfl) T.b_len PySem.boot_len (pa_cons (pv 6) pa_nil)) pe_int (nomark _))))) (pss_cons (ps_if (pt_cmpR (op_neSame (u64 hr)) (pe_lamSN (T := NTs Pt) (k := 12) (by rfl) T.law_heard.g T.law_heard.F T.law_heard.b sc_law_heard rfl (by first | exact Or.inl rfl | exact Or.inr (Or.inl rfl)) (heard_gives T rfl rfl) TB2 hcd2 ntm2 (nt_u2 hD) (hr.mono (by decide)) (LamX.lamS_by (sc := defScope s_law_right) (by decide +kernel)) rfl (fun _ _ _ _ _ => rfl)
        (fun A outer s H E f c2 hr => (pe_meth0 (pv 4) T.cl_Desk T.Desk_undo.m (ok_Desk_undo T) (hr.mono (by decide)) T.Desk_undo.b .nil (passes_call (takes_of rfl rfl rfl rfl) (fun _ _ _ _ h => h))))) (pe_lst (pa_cons pe_str (pa_cons pe_non pa_nil))) (nomark _)) (pss_one ps_never) pss_nil)
      (pss_one (ps_expr (pe_bm0 PySem.F.plainAttrs_list PySem.F.slot_list_pop PySem.F.type_list_pop mt_pop (pv 6))))) (pss_cons (ps_asg (pe_callG (ok_law_change T hcd1 TB1 hD) (hr.mono (by decide)) hG (by rfl) T.law_change.g T.law_change.F.kp T.law_change.b pass0 (pa_cons (pv 0) (pa_cons (pv 4) (pa_cons (pe_ix ix_tup (pe_ix ix_list (pv 6) (pe_un un_neg pe_int) (fun _ _ => rfl)) pe_int (fun _ _ => rfl)) (pa_cons (pe_ix ix_tup (pe_ix ix_list (pv 6) (pe_un un_neg pe_int) (fun _ _ => rfl)) pe_int (fun _ _ => rfl)) pa_nil))))) (pg_unl rfl (pgs_cons (pg_name (i := 10) sc_law_right.nd rfl (by first | exact Or.inl rfl | exact Or.inr rfl)) (pgs_cons (pg_name (i := 11) sc_law_right.nd rfl (by first | exact Or.inl rfl | exact Or.inr rfl)) pgs_nil))))
      (pss_cons (ps_if (pt_not (pt_val (pv 10))) (pss_one ps_never) pss_nil)
      (pss_one (ps_if (pt_cmpR op_notN (pv 11) pe_non (nomark _)) (pss_one (ps_expr (pe_bm PySem.F.plainAttrs_list PySem.F.slot_list_append PySem.F.type_list_append mt_append (pv 6) (pa_cons (pv 11) pa_nil)))) pss_nil)))))
      (pss_cons (ps_if (pt_not (pt_val (pe_callG (ok_law_refusals_right T hcd0 TB0 hD) (hr.mono (by decide)) hG (by rfl) T.law_refusals_right.g T.law_refusals_right.F.kp T.law_refusals_right.b pass0 (pa_cons (pv 0) (pa_cons (pv 4) (pa_cons (pe_ix ix_tup (pe_ix ix_list (pv 6) (pe_un un_neg pe_int) (fun _ _ => rfl)) pe_int (fun _ _ => rfl)) (pa_cons (pe_ix ix_tup (pe_ix ix_list (pv 6) (pe_un un_neg pe_int) (fun _ _ => rfl)) pe_int (fun _ _ => rfl)) pa_nil))))))) (pss_one ps_never) pss_nil)
      (pss_one (ps_if (pt_not (pt_val (pe_callG (ok_law_stands T) (hr.mono (by decide)) hG (by rfl) T.law_stands.g T.law_stands.F.kp T.law_stands.b pass0 (pa_cons (pv 0) (pa_cons (pv 4) (pa_cons (pe_ix ix_tup (pe_ix ix_list (pv 6) (pe_un un_neg pe_int) (fun _ _ => rfl)) pe_int (fun _ _ => rfl)) (pa_cons (pe_ix ix_tup (pe_ix ix_list (pv 6) (pe_un un_neg pe_int) (fun _ _ => rfl)) pe_int (fun _ _ => rfl)) (pa_cons (pe_op op_sub (pe_callB call_len_seq (by rfl) T.b_len PySem.boot_len (pa_cons (pv 6) pa_nil)) pe_int) pa_nil)))))))) (pss_one ps_never) pss_nil))))))
      (pss_cons (ps_for PassesOwn.never rfl (pi_list (pe_lst (pa_cons pe_non (pa_cons pe_str (pa_cons (pe_lst (pa_cons (pv 2) pa_nil)) (pa_cons pe_int pa_nil)))))) (pg_name (i := 12) sc_law_right.nd rfl (by first | exact Or.inl rfl | exact Or.inr rfl))
        (pss_cons (ps_if (pt_cmpR (op_neSame (u64 hr)) (pe_lamSN (T := NTs Pt) (k := 12) (by rfl) T.law_heard.g T.law_heard.F T.law_heard.b sc_law_heard rfl (by first | exact Or.inl rfl | exact Or.inr (Or.inl rfl)) (heard_gives T rfl rfl) TB2 hcd2 ntm2 (nt_u2 hD) (hr.mono (by decide)) (LamX.lamS_by (sc := defScope s_law_right) (by decide +kernel)) rfl (fun _ _ _ _ _ => rfl)
        (fun A outer s H E f c2 hr => (pe_make ⟨T.mk_Desk, T.Desk_init.m.at_, T.Desk_init.m.fn, T.kp_Desk⟩ (ok_Desk_initX T) (hr.mono (by decide)) (by rfl) T.g_Desk T.Desk_init.b .nil (passes_call (takes_of rfl rfl rfl rfl) (fun _ _ _ _ h => h)) (pa_cons (pv 12) (pa_cons (pv 3) pa_nil))))) (pe_lst (pa_cons pe_str (pa_cons (pv 12) (pa_cons pe_bl pa_nil)))) (nomark _)) (pss_one ps_never) pss_nil)
      (pss_one (ps_if (pt_cmpR (op_neSame (u64 hr)) (pe_lamSN (T := NTs Pt) (k := 12) (by rfl) T.law_heard.g T.law_heard.F T.law_heard.b sc_law_heard rfl (by first | exact Or.inl rfl | exact Or.inr (Or.inl rfl)) (heard_gives T rfl rfl) TB2 hcd2 ntm2 (nt_u2 hD) (hr.mono (by decide)) (LamX.lamS_by (sc := defScope s_law_right) (by decide +kernel)) rfl (fun _ _ _ _ _ => rfl)
        (fun A outer s H E f c2 hr => (pe_make ⟨T.mk_Desk, T.Desk_init.m.at_, T.Desk_init.m.fn, T.kp_Desk⟩ (ok_Desk_initX T) (hr.mono (by decide)) (by rfl) T.g_Desk T.Desk_init.b .nil (passes_call (takes_of rfl rfl rfl rfl) (fun _ _ _ _ h => h)) (pa_cons (pv 2) (pa_cons (pv 12) pa_nil))))) (pe_lst (pa_cons pe_str (pa_cons (pv 12) (pa_cons pe_bl pa_nil)))) (nomark _)) (pss_one ps_never) pss_nil))))
      (pss_cons (ps_set (i := 13) sc_law_right.nd rfl (by first | exact Or.inl rfl | exact Or.inr rfl) (pe_make ⟨T.mk_Machine, T.Machine_init.m.at_, T.Machine_init.m.fn, T.kp_Machine⟩ (ok_Machine_init T) (hr.mono (by decide)) (by rfl) T.g_Machine T.Machine_init.b .nil pass0 (pa_cons pe_str (pa_cons (pe_lst (pa_cons (pe_lst (pa_cons pe_int (pa_cons pe_int (pa_cons pe_int pa_nil)))) pa_nil)) (pa_cons (pe_lst (pa_cons pe_bl pa_nil)) pa_nil)))))
      (pss_cons (ps_if (pt_cmpR (op_neSame (u64 hr)) (pe_lamSN (T := NTs Pt) (k := 12) (by rfl) T.law_heard.g T.law_heard.F T.law_heard.b sc_law_heard rfl (by first | exact Or.inl rfl | exact Or.inr (Or.inl rfl)) (heard_gives T rfl rfl) TB2 hcd2 ntm2 (nt_u2 hD) (hr.mono (by decide)) (LamX.lamS_by (sc := defScope s_law_right) (by decide +kernel)) rfl (fun _ _ _ _ _ => rfl)
        (fun A outer s H E f c2 hr => (pe_make ⟨T.mk_Desk, T.Desk_init.m.at_, T.Desk_init.m.fn, T.kp_Desk⟩ (ok_Desk_initX T) (hr.mono (by decide)) (by rfl) T.g_Desk T.Desk_init.b .nil (passes_call (takes_of rfl rfl rfl rfl) (fun _ _ _ _ h => h)) (pa_cons (pv 13) (pa_cons (pv 2) pa_nil))))) (pe_lst (pa_cons pe_str (pa_cons pe_str (pa_cons (pv 1) (pa_cons pe_bl pa_nil))))) (nomark _)) (pss_one ps_never) pss_nil)
      (pss_one (ps_ret (pe_and (pe_callG (ok_law_stands T) (hr.mono (by decide)) hG (by rfl) T.law_stands.g T.law_stands.F.kp T.law_stands.b pass0 (pa_cons (pv 0) (pa_cons (pv 5) (pa_cons (pv 2) (pa_cons (pv 3) (pa_cons pe_int pa_nil))))))
        (pe_one (pe_cmpR op_eq (pe_callB (cr_reprL (k := 2) (hr.mono (by decide)) hG) (by rfl) T.b_repr (by decide +kernel) (pa_cons (pe_lst (pa_cons (pv 2) (pa_cons (pv 3) pa_nil))) pa_nil)) (pv 7) (by rfl)))))))))))))), ?_⟩
    try dsimp only [cxOf]
    refine ⟨_, rfl, by show 4 ≤ sizeLine; decide, fun L0 n0 => ?_⟩
    have s0 := same_upd (o := .lst [.str "ab", .str "ab", .str "a", .str "abc"]) n0
    have hL0 := upd_same (H := H) (a := L0) (o := .lst [.str "ab", .str "ab", .str "a", .str "abc"])
    generalize upd H L0 (.lst [.str "ab", .str "ab", .str "a", .str "abc"]) = H0 at *
    have hp0 := hp.same s0
    have hL0a : L0 ≠ a := fun e => hp.some (by rw [← e]; exact n0)
    refine ⟨a, _, rfl, hp0, .inr ⟨L0, _, rfl, hL0a, .inl (.inl hL0), by simp, by show 4 ≤ 1000; decide, fun H1 v hv hp1 ho1 => ?_⟩⟩
    obtain ⟨sg, rfl, hl, h97, hxyz⟩ : ∃ sg, v = tx sg ∧ Lets sg ∧ 97 ∈ sg ∧ sg ≠ xyz := by
      simp only [List.mem_cons, List.not_mem_nil, or_false] at hv
      rcases hv with rfl | rfl | rfl | rfl
      · exact ⟨[97, 98], rfl, ⟨by decide, by decide, by decide, by decide⟩, by decide, by decide⟩
      · exact ⟨[97, 98], rfl, ⟨by decide, by decide, by decide, by decide⟩, by decide, by decide⟩
      · exact ⟨[97], rfl, ⟨by decide, by decide, by decide, by decide⟩, by decide, by decide⟩
      · exact ⟨[97, 98, 99], rfl, ⟨by decide, by decide, by decide, by decide⟩, by decide, by decide⟩
    have o1 : Off a H H1 := (Off.of s0).trans ho1
    have hT1 := tabs_off hT hp o1
    refine ⟨_, rfl, _, rfl, a, sg, 4, rfl, hp1, hl, by decide, by decide, fun H2 x R1 k1 hm1 hp2 ho2 nx hx => ?_⟩
    refine ⟨_, rfl, _, rfl, a, sg, 4, rfl, hp2, hl, by decide, by decide, fun H3 y R2 k2 hm2 hp3 ho3 ny hy => ?_⟩
    refine ⟨by show 2 ≤ sizeLine; decide, fun Lt nt => ⟨Lt, _, rfl, .inl (.inl upd_same), rfl, _, _, rfl, _, _, rfl, rfl, ?_⟩⟩
    have st := same_upd (o := .tup [.ref x, .ref y]) nt
    have xa : x ≠ a := fun e => hp1.some (by rw [← e]; exact nx)
    have ya : y ≠ a := fun e => hp2.some (by rw [← e]; exact ny)
    have hx2 := hx.hid (l := [a]) (fun b m => by rw [List.mem_singleton.mp m]; exact hp2.loose) (fun m => xa (List.mem_singleton.mp m))
    have hx3 := (hx2.ext (ho3.kp (l := [a]) List.mem_cons_self).hide).same hide_le
    have hx4 := hx3.same st
    have hy4 := hy.same st
    have hp4 := hp3.same st
    have o4 : Off a H _ := o1.trans (ho2.trans (ho3.trans (Off.of st)))
    generalize upd H3 Lt (.tup [.ref x, .ref y]) = H4 at *
    refine ⟨_, rfl, _, rfl, ?_⟩
    intro d dd nd ndd _
    have sd := same_up (o := .ins T.C_Desk dd []) (same_upd (o := .own d) ndd) nd
    refine ⟨d, dd, .ref x, .ref y, rfl, upd_same, .inl ⟨x, y, sg, (R1, k1), (R2, k2), rfl, rfl, hx4.same sd, hy4.same sd, fun H5 p1 keep np1 hpp1 hd5 => ⟨rfl, ?_⟩⟩⟩
    have s45 : Same H4 H5 := fun c o e => keep c o (sd c o e) (ne_of_none e nd)
    have np1' := sd.free np1
    refine ⟨_, rfl, _, rfl, rfl, rfl, ?_⟩
    intro n dn nn ndn _
    have sn := same_up (o := .ins T.C_Desk dn []) (same_upd (o := .own n) ndn) nn
    refine ⟨n, dn, .ref x, .ref y, rfl, upd_same, .inl ⟨x, y, sg, (R1, k1), (R2, k2), rfl, rfl, (hx4.same s45).same sn, (hy4.same s45).same sn, fun H6 p2 keep2 np2 hpp2 hn6 => ⟨rfl, ?_⟩⟩⟩
    have s56 : Same H5 H6 := fun c o e => keep2 c o (sn c o e) (ne_of_none e nn)
    refine ⟨_, rfl, _, rfl, by show 2 ≤ sizeLine; decide, fun t0 nt0 => ⟨by show 1 ≤ sizeLine; decide, fun P nP => ⟨by show 3 ≤ sizeLine; decide, fun Lu nu => ⟨Lu, _, rfl, .inl (.inl upd_same), rfl, _, _, rfl, _, _, rfl, _, _, rfl, rfl, ?_⟩⟩⟩⟩
    have s7 := same_upd (o := .tup [.ref x, .ref y]) nt0
    have s8 := same_upd (o := .lst [.ref t0]) nP
    have s9 := same_upd (o := .tup [.ref d, .ref n, .ref P]) nu
    have ht9 := s9 _ _ (s8 _ _ (upd_same (H := H6) (a := t0) (o := .tup [.ref x, .ref y])))
    have hP9 := s9 _ _ (upd_same (H := upd H6 t0 (.tup [.ref x, .ref y])) (a := P) (o := .lst [.ref t0]))
    have s69 := s7.trans (s8.trans s9)
    generalize upd (upd (upd H6 t0 (.tup [.ref x, .ref y])) P (.lst [.ref t0])) Lu (.tup [.ref d, .ref n, .ref P]) = H9 at *
    have s59 := s56.trans s69
    have s49 := s45.trans s59
    have hd9 := s59 _ _ hd5
    have hn9 := s69 _ _ hn6
    have hp19 := s59 _ _ hpp1
    have hp29 := s69 _ _ hpp2
    have hx9 := hx4.same s49
    have hy9 := hy4.same s49
    have hp9 := hp4.same s49
    have o9 := o4.trans (Off.of s49)
    have hT9 := tabs_off hT hp o9
    have hdn : n ≠ d := fun e => by rw [e, hd5] at nn; cases nn
    obtain ⟨pu, pv', hpa9, _⟩ := id hp9
    obtain ⟨dx9, rx9, qx9, hxt9, _⟩ := id hx9.at_
    obtain ⟨dy9, ry9, qy9, hyt9, _⟩ := id hy9.at_
    have own_ne : ∀ {u : Addr} {r q : V} {C dx C' dx' : Addr} {sg : List Nat} {f1 f2 f3 : V}, H9 u = some (.ins C dx [("own_letters", tx sg), ("own_rows", r), ("own_kinds", q)]) → H9 u = some (.ins C' dx' [("one", f1), ("other", f2), ("own_past", f3)]) → False := fun h1 h2 => by
      rw [h1] at h2
      have := HO.ins.inj (Option.some.inj h2)
      have := this.2.2
      simp at this
      exact absurd this.1.1 (by decide +kernel)
    have hPa : P ≠ a := fun e => by rw [← e, hP9] at hpa9; cases hpa9
    have hPd : P ≠ d := fun e => by rw [← e, hP9] at hd9; cases hd9
    have hda : d ≠ a := fun e => by rw [← e, hd9] at hpa9; cases hpa9
    have mem3 : ∀ {u : Addr}, u ∈ [a, d, P] → u = a ∨ u = d ∨ u = P := fun h => by simpa using h
    have hlo : LooseL [a, d, P] H9 := fun b m => by
      rcases mem3 m with rfl | rfl | rfl
      · exact hp9.loose
      · exact .inr ⟨_, _, _, hd9⟩
      · exact .inl ⟨_, hP9⟩
    have xl : x ∉ [a, d, P] := fun m => by
      rcases mem3 m with e | e | e
      · rw [e, hpa9] at hxt9; cases hxt9
      · rw [e] at hxt9; exact own_ne hxt9 hd9
      · rw [e, hP9] at hxt9; cases hxt9
    have yl : y ∉ [a, d, P] := fun m => by
      rcases mem3 m with e | e | e
      · rw [e, hpa9] at hyt9; cases hyt9
      · rw [e] at hyt9; exact own_ne hyt9 hd9
      · rw [e, hP9] at hyt9; cases hyt9
    have nl : n ∉ [a, d, P] := fun m => by
      rcases mem3 m with e | e | e
      · rw [e, hpa9] at hn9; cases hn9
      · exact hdn e
      · rw [e, hP9] at hn9; cases hn9
    have p1l : p1 ∉ [a, d, P] := fun m => by
      rcases mem3 m with e | e | e
      · rw [e, hpa9] at hp19; cases hp19
      · rw [e, hd9] at hp19; cases hp19
      · rw [e, hP9] at hp19; cases hp19
    have p2l : p2 ∉ [a, d, P] := fun m => by
      rcases mem3 m with e | e | e
      · rw [e, hpa9] at hp29; cases hp29
      · rw [e, hd9] at hp29; cases hp29
      · rw [e, hP9] at hp29; cases hp29
    have t0l : t0 ∉ [a, d, P] := fun m => by
      rcases mem3 m with e | e | e
      · rw [e, hpa9] at ht9; cases ht9
      · rw [e, hd9] at ht9; cases ht9
      · rw [e, hP9] at ht9; cases ht9
    have hxh := hx9.hid hlo xl
    have hyh := hy9.hid hlo yl
    have hDk : DeskS T.C_Machine T.C_Desk K [a, d, P] H9 d sg (R1, k1) (R2, k2) [] := ⟨dd, x, y, p1, [], hd9, hxh, hyh, by rw [hide_out p1l]; exact hp19, rfl, fun i t pr e => (by cases e)⟩
    have hNr : DeskS T.C_Machine T.C_Desk K [a, d, P] H9 n sg (R1, k1) (R2, k2) [] := ⟨dn, x, y, p2, [], hn9, hxh, hyh, by rw [hide_out p2l]; exact hp29, rfl, fun i t pr e => (by cases e)⟩
    have hPs : PastS T.C_Machine K (hide [a, d, P] H9) sg [t0] ([] ++ [((R1, k1), (R2, k2))]) := ⟨rfl, fun i t pr e1 e2 => by
      match i, e1, e2 with
      | 0, e1, e2 => cases e1; cases e2; exact ⟨x, y, by rw [hide_out t0l]; exact ht9, hxh, hyh⟩
      | i + 1, e1, _ => cases e1⟩
    have hLp : Lp T Pt [a, d, P] H9 a d P sg (R1, k1) (R2, k2) [] 0 := ⟨hp9, by simp, by simp, by simp, hda, hPa, hPd, hlo, hDk, Nat.le_refl _, hT9, fun pr m => by
      rw [List.nil_append, List.mem_singleton] at m
      subst m
      exact ⟨by show R1.length ≤ 6; omega, by show R2.length ≤ 6; omega⟩, [t0], hP9, hPs⟩
    have k9 : Kp [a] H H9 := o9.kp List.mem_cons_self
    have hdH : ∀ o, H d ≠ some o := fun o e => by
      have := o4 _ _ e hda
      rw [nd] at this
      cases this
    have hPH : ∀ o, H P ≠ some o := fun o e => by
      have := (o4.trans (Off.of (s45.trans (s56.trans s7)))) _ _ e hPa
      rw [nP] at this
      cases this
    clear hDk hPs np1 np2 nd ndd nn ndn nt0 nP nu nt n0 hv
    have lz := list2_len (spk sg R1 k1) (spk sg R2 k2)
    have lz1 := spk_len hl hx9.good.toSht
    have lz2 := spk_len hl hy9.good.toSht
    have hsz : (listText [spk sg R1 k1, spk sg R2 k2]).length ≤ sizeLine := Nat.le_trans lz (by rw [sizeLine_eq]; omega)
    refine ⟨_, rfl, _, rfl, by show 2 ≤ sizeLine; decide, fun Ls ns => ?_⟩
    have ss := same_upd (o := .lst [.ref x, .ref y]) ns
    have hLs := upd_same (H := H9) (a := Ls) (o := .lst [.ref x, .ref y])
    refine ⟨Ls, x, T.C_Machine, dx9, _, [spk sg R1 k1, spk sg R2 k2], _, rfl, hLs, by simp, ss _ _ hxt9, rfl, ?_, hsz, fun H10 s10 => ?_⟩
    · exact all2 (ReprStep.own (ok_Machine_repr T) T.Machine_repr.b T.Machine_repr.m (krM T (hx9.same ss)) (by rw [sizeLine_eq]; omega)) (ReprStep.own (ok_Machine_repr T) T.Machine_repr.b T.Machine_repr.m (krM T (hy9.same ss)) (by rw [sizeLine_eq]; omega))
    have s910 := ss.trans s10
    have L10 := hLp.keep (Kp.same s910) (hp9.same s910) (hT9.ext s910)
    have hNr10 := hNr.same s910
    dsimp only [gName]
    refine seq_to ?_
    obtain ⟨ts9, t9, u9, v9, _, _, _, A10⟩ := L10.last (by decide)
    refine if_to (fun H1 => LamX.ExtN H10 H1 ∧ TabsN (NTs Pt) H1) (fun Q' hQ => ?_) (fun B1 r1 => ?_)
    · refine ask false (fun l r L H Q h1 h2 ok q => ⟨l, r, L, rfl, rfl, h1, h2, ok, q⟩) .nothing A10.tabs none_ok (fun H1 E Qv e1 T1 hE => ?_) (fun H2 Qb e2 kb => ⟨by show 2 ≤ sizeLine; decide, fun r nr => kb _ r (same_upd nr) upd_same⟩) fun H3 e3 T3 => ⟨false, rfl, hQ H3 ⟨e3, T3⟩⟩
      have A1 := A10.ext e1 T1
      obtain ⟨dd1, a1, b1, pp1, ts1, hd1, _⟩ := id A1.two.desk.ex
      exact ⟨_, rfl, d, dd1, _, rfl, hd1, rfl, [a, d, P], d, sg, _, _, _, rfl, A1.dl, A1.loose, A1.two.desk, A1.few, .inl ⟨rfl, fun H' s => hE H' s _ _ ⟨rfl, rfl⟩⟩⟩
    obtain ⟨e1, T1⟩ := r1
    have hp1' : Pot B1 a := by
      obtain ⟨u, v, e, r⟩ := L10.pot
      exact ⟨u, v, e1 _ _ e (fun _ z => by cases z), r⟩
    have L11 := L10.keep (Kp.ext e1) hp1' T1
    have k11 : Kp [a, d, P] H9 B1 := (Kp.same s910).trans (Kp.ext e1)
    clear A10 own_ne L10 hNr10 hp1'
    dsimp only [tNext]
    refine seq_to ?_
    refine ⟨(8 : Int), rfl, by omega, by omega, ?_⟩
    refine for_it walk_range (fun i σ H' => ∃ g8 g9 g10 g11 one other past, σ = [some (.ref a), some (tx sg), some (.ref x), some (.ref y), some (.ref d), some (.ref n), some (.ref P), some (.str (listText [spk sg R1 k1, spk sg R2 k2])), g8, g9, g10, g11, none, none] ∧ Lp T Pt [a, d, P] H' a d P sg one other past i ∧ Kp [a, d, P] H9 H') ⟨none, none, none, none, _, _, _, rfl, L11, k11⟩ (fun _ _ _ _ _ => trivial) (fun i x' σ H5 H6 hi p yy => ?_) (fun σ H5 p => ?_)
    · obtain ⟨g8, g9, g10, g11, one, other, past, rfl, L, kk⟩ := p
      obtain ⟨rfl, rfl⟩ := yy
      have hi8 : i < 8 := hi
      dsimp only [gName]
      refine seq_to ?_
      refine ⟨_, rfl, a, 3, rfl, L.pot, by decide, by decide, fun H7 kd hkd hp7 ho7 => ?_⟩
      have kk7 : Kp [a] H6 H7 := ho7.kp List.mem_cons_self
      have L7 := L.keep kk7 hp7 (tabs_off L.tabs L.pot ho7)
      have up : ∀ {H H' : Hp}, Kp [a] H H' → Kp [a, d, P] H H' := fun k => k.mono fun b m => by rw [List.mem_singleton.mp m]; simp
      have up2 : ∀ {H H' : Hp}, Kp [a, d] H H' → Kp [a, d, P] H H' := fun k => k.mono fun b m => by
        rcases List.mem_cons.mp m with rfl | m
        · simp
        · rw [List.mem_singleton.mp m]; simp
      have K7 := kk.trans (up kk7)
      dsimp only [gName]
      refine seq_to (join (fun σ' H' => ∃ g8 g10 g11 one other past, σ' = [some (.ref a), some (tx sg), some (.ref x), some (.ref y), some (.ref d), some (.ref n), some (.ref P), some (.str (listText [spk sg R1 k1, spk sg R2 k2])), g8, some (.int (kd : Int)), g10, g11, none, none] ∧ Lp T Pt [a, d, P] H' a d P sg one other past (i + 1) ∧ Kp [a, d, P] H9 H') (fun N hN => ?_) (fun σ' H' p => ?_))
      · obtain ⟨ts, t, u, v, hP7, ht7, hS7, A7⟩ := L7.last (by omega)
        refine and_if (past ≠ []) ?_ (fun Q' q0 q1 => ?_) (fun hne => ?_)
        · refine seq_to ?_
          have h6 := L7.six (one, other) (List.mem_append_right _ List.mem_cons_self)
          refine ⟨_, rfl, _, rfl, _, rfl, 1, rfl, P, _, _, _, rfl, rfl, .inl (.inl hP7), atLastA _ _, t, _, _, _, rfl, rfl, .inl (.inl ht7), rfl, _, rfl, 1, rfl, P, _, _, _, rfl, rfl, .inl (.inl hP7), atLastA _ _, t, _, _, _, rfl, rfl, .inl (.inl ht7), rfl, ?_⟩
          refine ⟨a, d, u, v, [a, d, P], sg, one, other, past, rfl, A7, h6.1, h6.2, fun H8 p k8 T8 hp8 hr => ?_, fun H8 p t2 u2 v2 m1 m2 k8 hr ht2 tl2 B8 hm1 hm2 => ?_⟩
          · refine ⟨p, _, rfl, .inl (.inl hr), rfl, _, _, rfl, _, _, rfl, rfl, ?_⟩
            refine seq_to ?_
            refine ⟨_, rfl, true, rfl, iteF ?_⟩
            dsimp only [tNext]
            refine ⟨_, rfl, rfl, _, rfl, ite_f (by simp) ?_⟩
            have L8 := L7.keep k8 hp8 T8
            exact hN _ _ ⟨_, _, _, _, _, _, rfl, ⟨L8.pot, L8.al, L8.dl, L8.pl, L8.ne, L8.nP, L8.nD, L8.loose, L8.desk, Nat.le_succ_of_le L8.few, L8.tabs, L8.six, L8.lst⟩, K7.trans (up k8)⟩
          · refine ⟨p, _, rfl, .inl (.inl hr), rfl, _, _, rfl, _, _, rfl, rfl, ?_⟩
            refine seq_to ?_
            refine ⟨_, rfl, true, rfl, iteF ?_⟩
            dsimp only [tNext]
            refine ⟨_, rfl, rfl, _, rfl, ite_t (by simp) ?_⟩
            obtain ⟨xs, hP8, hxs, L9⟩ := L7.push B8 k8 ht2 tl2 hm1 hm2
            refine ⟨_, rfl, .inl ⟨rfl, _, .inl (.inl hP8)⟩, _, rfl, P, xs, _, rfl, rfl, hP8, by rw [sizeLine_eq]; omega, ?_⟩
            exact hN _ _ ⟨_, _, _, _, _, _, rfl, L9, K7.trans ((up2 k8).trans (Kp.upd (by simp)))⟩
        · refine ⟨_, rfl, rfl, _, rfl, ?_⟩
          by_cases hk : kd = 0
          · subst hk
            refine ite_t rfl ?_
            refine ⟨_, rfl, P, _, rfl, .inl (.inl (.inl hP7)), _, _, rfl, rfl, _, rfl, ?_⟩
            have hl := hS7.len
            rw [List.length_append, List.length_append, List.length_singleton, List.length_singleton] at hl
            by_cases hpz : past = []
            · refine (congrArg (fun b => Q' b H7) (decide_eq_false ?_)).mpr q0
              rw [hpz] at hl
              rw [List.length_map, List.length_append, List.length_singleton, hl]
              decide
            · refine (congrArg (fun b => Q' b H7) (decide_eq_true ?_)).mpr (q1 hpz)
              have : 0 < past.length := List.length_pos_iff.mpr hpz
              rw [List.length_map, List.length_append, List.length_singleton]
              omega
          · exact ite_f (decide_eq_false (by simpa using hk)) q0
        · obtain ⟨q, pr, rfl⟩ : ∃ q pr, past = q ++ [pr] := ⟨_, _, (List.dropLast_concat_getLast hne).symm⟩
          refine seq_to ?_
          refine ⟨L7.tabs, fun H8 e8 T8 E Qv hE hQ => ?_⟩
          have A8 := A7.ext e8 T8
          obtain ⟨dd8, a8, b8, p8, ts8, hd8, _⟩ := id A8.two.desk.ex
          refine ⟨_, rfl, d, dd8, _, rfl, hd8, rfl, [a, d, P], d, sg, one, other, q ++ [pr], rfl, A8.dl, A8.loose, A8.two.desk, A8.few, .inr ⟨pr, q, rfl, fun H10 s10 hD10 => hQ H10 .non fun p np => ?_⟩⟩
          obtain ⟨B10, k10⟩ := A8.dsk s10 hD10
          have s11 := same_upd (o := .lst [.str "told", .non]) np
          have hp11 := upd_same (H := H10) (a := p) (o := .lst [.str "told", .non])
          generalize upd H10 p (.lst [.str "told", .non]) = H11 at *
          refine ⟨by show 2 ≤ sizeLine; decide, fun r nr => ?_⟩
          have s12 := same_upd (o := .lst [.str "told", .non]) nr
          refine ⟨p, r, _, rfl, rfl, s12 _ _ hp11, upd_same, told_ok, fun H13 s13 => ?_⟩
          have s1013 := s11.trans (s12.trans s13)
          have B13 := B10.same s1013
          have k13 : Kp [a, d] H7 H13 := (Kp.ext e8).trans (k10.trans (Kp.same s1013))
          obtain ⟨xs, vl, hP13, hlast, L14⟩ := L7.pop B13 k13
          refine ⟨false, rfl, iteF ?_⟩
          dsimp only [tNext]
          refine ⟨_, rfl, .inl ⟨rfl, _, .inl (.inl hP13)⟩, P, xs, vl, rfl, rfl, hP13, hlast, ?_⟩
          exact hN _ _ ⟨_, _, _, _, _, _, rfl, L14, K7.trans ((up2 k13).trans (Kp.upd (by simp)))⟩
      · obtain ⟨g8', g10, g11, one, other, past, rfl, L8, K8⟩ := p
        dsimp only
        refine seq_to ?_
        obtain ⟨ts, t, u, v, hP8, ht8, hS8, A8⟩ := L8.last (by omega)
        have h6 := L8.six (one, other) (List.mem_append_right _ List.mem_cons_self)
        refine ⟨_, rfl, _, rfl, _, rfl, 1, rfl, P, _, _, _, rfl, rfl, .inl (.inl hP8), atLastA _ _, t, _, _, _, rfl, rfl, .inl (.inl ht8), rfl, _, rfl, 1, rfl, P, _, _, _, rfl, rfl, .inl (.inl hP8), atLastA _ _, t, _, _, _, rfl, rfl, .inl (.inl ht8), rfl, ?_⟩
        refine ⟨a, d, u, v, [a, d, P], sg, one, other, past, rfl, A8, h97, hxyz, Nat.le_trans h6.1 (by decide), fun H9' hp9' k9' T9' => ⟨true, rfl, iteF ?_⟩⟩
        have L9 := L8.keep k9' hp9' T9'
        obtain ⟨ts, t, u, v, hP9', ht9', hS9, A9⟩ := L9.last (by omega)
        have hl : ((((ts ++ [t]).map V.ref).length : Nat) : Int) - 1 = (past.length : Int) := by
          have hl := hS9.len
          rw [List.length_append, List.length_append, List.length_singleton, List.length_singleton] at hl
          rw [List.length_map, List.length_append, List.length_singleton]
          omega
        have hf := L9.few
        dsimp only [tNext]
        refine ⟨_, rfl, _, rfl, _, rfl, 1, rfl, P, _, _, _, rfl, rfl, .inl (.inl hP9'), atLastA _ _, t, _, _, _, rfl, rfl, .inl (.inl ht9'), rfl, _, rfl, 1, rfl, P, _, _, _, rfl, rfl, .inl (.inl hP9'), atLastA _ _, t, _, _, _, rfl, rfl, .inl (.inl ht9'), rfl, ?_⟩
        refine ⟨_, rfl, P, _, rfl, .inl (.inl (.inl hP9')), _, _, rfl, rfl, ?_⟩
        refine ⟨a, d, u, v, [a, d, P], sg, one, other, past, by rw [← hl]; rfl, A9.pot, A9.al, A9.ne, A9.two, by omega, fun H10' hp10 ho10 => ⟨true, rfl, iteF ?_⟩⟩
        have L10 := L9.keep (ho10.kp List.mem_cons_self) hp10 (tabs_off L9.tabs L9.pot ho10)
        exact ⟨_, _, _, _, _, _, _, rfl, L10, K8.trans ((up k9').trans (up (ho10.kp List.mem_cons_self)))⟩
    obtain ⟨g8, g9, g10, g11, one, other, past, rfl, L, kk⟩ := p
    have hN5 : DeskS T.C_Machine T.C_Desk K [a, d, P] H5 n sg (R1, k1) (R2, k2) [] := hNr.keep kk (by rw [kk _ _ hn9 nl (fun _ z => by cases z), hn9])
    have hx5 := (hxh.ext kk.hide)
    have hy5 := (hyh.ext kk.hide)
    have hp5 := L.pot
    have T5 := L.tabs
    have hna : n ≠ a := fun e => nl (by rw [e]; simp)
    have kE : Kp [a] H H5 := fun b o e nb nt => kk _ _ (k9 _ _ e nb nt) (fun m => by
      rcases mem3 m with z | z | z
      · exact nb (by rw [z]; exact List.mem_cons_self)
      · exact hdH o (by rw [← z]; exact e)
      · exact hPH o (by rw [← z]; exact e)) nt
    dsimp only
    refine seq_to ?_
    have x5 := hx5.same hide_le
    have y5 := hy5.same hide_le
    refine ⟨_, rfl, by show 1 ≤ sizeLine; decide, fun Lx nx => ⟨by show 4 ≤ sizeLine; decide, fun Lw nw => ?_⟩⟩
    have sx := same_upd (o := .lst [.ref x]) nx
    have hLx := upd_same (H := H5) (a := Lx) (o := .lst [.ref x])
    generalize upd H5 Lx (.lst [.ref x]) = B12 at *
    have sw := same_upd (o := .lst [.non, .str "ab", .ref Lx, .int 7]) nw
    have hLw := upd_same (H := B12) (a := Lw) (o := .lst [.non, .str "ab", .ref Lx, .int 7])
    have hLx2 := sw _ _ hLx
    refine ⟨_, rfl, ⟨_, .inl (.inl hLw)⟩, ?_⟩
    generalize upd B12 Lw (.lst [.non, .str "ab", .ref Lx, .int 7]) = B13 at *
    have hE13 : LamX.ExtN H5 B13 := LamX.ExtN.of (sx.trans sw)
    have hT13 := T5.ext (sx.trans sw)
    refine for_it (walk_list (xs := [.non, .str "ab", .ref Lx, .int 7])) (fun i σ H' => ∃ g, σ = [some (.ref a), some (tx sg), some (.ref x), some (.ref y), some (.ref d), some (.ref n), some (.ref P), some (.str (listText [spk sg R1 k1, spk sg R2 k2])), g8, g9, g10, g11, g, none] ∧ LamX.ExtN B13 H' ∧ TabsN (NTs Pt) H') ⟨_, rfl, LamX.ExtN.refl _, hT13⟩ (fun i σ H' _ p => by obtain ⟨_, _, e14, _⟩ := p; exact .inl (.inl (e14 _ _ hLw (fun _ z => by cases z)))) (fun i v σ H14 H15 hi p yy => ?_) (fun σ H14 p => ?_)
    · obtain ⟨g14, rfl, e14, T14⟩ := p
      obtain ⟨rfl, yy⟩ := yy
      have hE14 := hE13.trans e14
      obtain ⟨ty, hty, hp1, hok⟩ : ∃ t, (∀ H', LamX.ExtN H15 H' → TyX K H' v (.type t)) ∧ plainTy t = true ∧ OkE v := by
        match i, yy with
        | 0, yy => cases yy; exact ⟨_, fun _ _ => tyx_dpD (.data .non), by decide +kernel, .inl rfl⟩
        | 1, yy => cases yy; exact ⟨_, fun _ _ => tyx_dpD (.data (.str _)), by decide +kernel, .inl rfl⟩
        | 2, yy => cases yy; exact ⟨"list", fun H' e => ty_list (.inl (.inl (e _ _ (e14 _ _ hLx2 (fun _ z => by cases z)) (fun _ z => by cases z)))), by decide +kernel, .inr ⟨_, rfl⟩⟩
        | 3, yy => cases yy; exact ⟨_, fun _ _ => tyx_dpD (.data (.int _)), by decide +kernel, .inl rfl⟩
        | i + 4, yy => cases yy
      dsimp only [gName]
      refine seq_to ?_
      refine if_to (fun H1 => LamX.ExtN H15 H1 ∧ TabsN (NTs Pt) H1) (fun Q' hQ => ?_) (fun B16 r16 => ?_)
      · refine ask false (fun l r L H Q h1 h2 ok q => ⟨l, r, L, rfl, rfl, h1, h2, ok, q⟩) (.ref 2 v) T14 (ok_ref hok) (fun H1 E Qv e1 T1 hE => ?_) (fun H2 Qb e2 kb => ⟨_, rfl, by show 3 ≤ sizeLine; decide, fun r nr => kb _ r (same_upd nr) upd_same⟩) fun H3 e3 T3 => ⟨false, rfl, hQ H3 ⟨e3, T3⟩⟩
        refine ⟨_, rfl, _, rfl, ?_⟩
        intro q0 dq nq ndq _
        have sq := same_up (o := .ins T.C_Desk dq []) (same_upd (o := .own q0) ndq) nq
        exact ⟨q0, dq, _, _, rfl, upd_same, .inr (.inl ⟨ty, fun H' s => hty H' (e1.trans (LamX.ExtN.of (sq.trans s))), hp1, (rz_of hE (by decide) rfl).same sq⟩)⟩
      obtain ⟨hE16, hT16⟩ := r16
      dsimp only [tNext]
      refine if_to (fun H1 => LamX.ExtN H15 H1 ∧ TabsN (NTs Pt) H1) (fun Q' hQ => ?_) (fun B17 r17 => ?_)
      · refine ask false (fun l r L H Q h1 h2 ok q => ⟨l, r, L, rfl, rfl, h1, h2, ok, q⟩) (.ref 2 v) hT16 (ok_ref hok) (fun H1 E Qv e1 T1 hE => ?_) (fun H2 Qb e2 kb => ⟨_, rfl, by show 3 ≤ sizeLine; decide, fun r nr => kb _ r (same_upd nr) upd_same⟩) fun H3 e3 T3 => ⟨false, rfl, hQ H3 ⟨hE16.trans e3, T3⟩⟩
        refine ⟨_, rfl, _, rfl, ?_⟩
        intro q0 dq nq ndq _
        have sq := same_up (o := .ins T.C_Desk dq []) (same_upd (o := .own q0) ndq) nq
        exact ⟨q0, dq, _, _, rfl, upd_same, .inr (.inr (.inl ⟨x, sg, (R1, k1), ty, rfl, (x5.ext ((hE14.trans hE16).trans e1)).same sq, fun H' s => hty H' ((hE16.trans e1).trans (LamX.ExtN.of (sq.trans s))), hp1, (rz_of hE (by decide) rfl).same sq⟩))⟩
      obtain ⟨hE17, hT17⟩ := r17
      dsimp only [tNext]
      exact ⟨_, rfl, e14.trans hE17, hT17⟩
    obtain ⟨g14, rfl, e14, T14⟩ := p
    have hE14 := hE13.trans e14
    dsimp only
    refine seq_to ?_
    refine ⟨by show 3 ≤ sizeLine; decide, fun L4 n4 => ⟨by show 1 ≤ sizeLine; decide, fun L5 n5 => ⟨by show 1 ≤ sizeLine; decide, fun L6 n6 => ?_⟩⟩⟩
    have s4 := same_upd (o := .lst [.int 0, .int 0, .int 0]) n4
    have s5 := same_upd (o := .lst [.ref L4]) n5
    have s6 := same_upd (o := .lst [.bl true]) n6
    have hL4 : upd H14 L4 (.lst [.int 0, .int 0, .int 0]) L4 = _ := upd_same
    have hL5 : upd (upd H14 L4 (.lst [.int 0, .int 0, .int 0])) L5 (.lst [.ref L4]) L5 = _ := upd_same
    have hL6 : upd (upd (upd H14 L4 (.lst [.int 0, .int 0, .int 0])) L5 (.lst [.ref L4])) L6 (.lst [.bl true]) L6 = _ := upd_same
    have hL46 := s6 _ _ (s5 _ _ hL4)
    have hL56 := s6 _ _ hL5
    have s46 := s4.trans (s5.trans s6)
    generalize upd (upd (upd H14 L4 (.lst [.int 0, .int 0, .int 0])) L5 (.lst [.ref L4])) L6 (.lst [.bl true]) = H16 at *
    intro st' dst nst ndst _
    have hrw : Dp K H16 (.ref L5) (dLR [[0, 0, 0]]) := .lst (.inl (.inl hL56)) (.cons (.lst (.inl (.inl hL46)) (dpAll_nV [0, 0, 0])) .nil)
    refine make_ok (k := [true]) (sg := xyz) lets_xyz (rw_dLR hrw) (sq_list (.inl (.inl hL6))) good_xyz nst ndst fun H17 s17 hst7 => ?_
    have E17 := hE14.trans (LamX.ExtN.of (s46.trans s17))
    have T17 := T14.ext (s46.trans s17)
    dsimp only [gName]
    refine seq_to ?_
    refine if_to (fun H1 => LamX.ExtN H17 H1 ∧ TabsN (NTs Pt) H1) (fun Q' hQ => ?_) (fun B18 r18 => ?_)
    · refine ask false (fun l r L H Q h1 h2 ok q => ⟨l, r, L, rfl, rfl, h1, h2, ok, q⟩) (.letters xyz sg) T17 ok_letters (fun H1 E Qv e1 T1 hE => ?_) (fun H2 Qb e2 kb => ⟨_, rfl, by show 4 ≤ sizeLine; decide, fun r nr => kb _ r (same_upd nr) upd_same⟩) fun H3 e3 T3 => ⟨false, rfl, hQ H3 ⟨e3, T3⟩⟩
      refine ⟨_, rfl, _, rfl, ?_⟩
      intro q0 dq nq ndq _
      have sq := same_up (o := .ins T.C_Desk dq []) (same_upd (o := .own q0) ndq) nq
      exact ⟨q0, dq, _, _, rfl, upd_same, .inr (.inr (.inr ⟨st', x, xyz, sg, ([[0, 0, 0]], [true]), (R1, k1), rfl, rfl, (hst7.ext e1).same sq, (x5.ext (E17.trans e1)).same sq, fun z => hxyz z.symm, (oz_of hE).same sq⟩))⟩
    obtain ⟨hE18, hT18⟩ := r18
    have E18 := E17.trans hE18
    dsimp only [tNext]
    have kE18 : Kp [a, d, P] H5 B18 := Kp.ext E18
    have hp18 : Pot B18 a := by
      obtain ⟨u, v, e, r⟩ := hp5
      exact ⟨u, v, E18 _ _ e (fun _ z => by cases z), r⟩
    have tw : Two T [a, d, P] B18 n x y sg (R1, k1) (R2, k2) [] := ⟨hN5.keep kE18 (by
      have e := kk _ _ hn9 nl (fun _ z => by cases z)
      rw [E18 _ _ e (fun _ z => by cases z), e]), hx5.ext kE18.hide, hy5.ext kE18.hide⟩
    refine ⟨_, rfl, _, rfl, _, rfl, _, rfl, ?_⟩
    refine ⟨a, n, x, y, [a, d, P], sg, (R1, k1), (R2, k2), [], rfl, hp18, List.mem_cons_self, hna, tw, by show 0 ≤ 1000; decide, fun H19 hp19 ho19 => ⟨true, rfl, iteT ?_⟩⟩
    have k19 : Kp [a] B18 H19 := ho19.kp List.mem_cons_self
    have T19 := tabs_off hT18 hp18 ho19
    have k19' : Kp [a, d, P] B18 H19 := ho19.kp List.mem_cons_self
    have hx19 := (tw.mx.ext k19'.hide).same hide_le
    have hy19 := (tw.my.ext k19'.hide).same hide_le
    obtain ⟨dx19, rx19, qx19, hxt19, _⟩ := id hx19.at_
    refine ⟨_, rfl, _, rfl, by show 2 ≤ sizeLine; decide, fun Lz nz => ?_⟩
    have sz1 := same_upd (o := .lst [.ref x, .ref y]) nz
    have hLz := upd_same (H := H19) (a := Lz) (o := .lst [.ref x, .ref y])
    refine ⟨Lz, x, T.C_Machine, dx19, _, [spk sg R1 k1, spk sg R2 k2], _, rfl, hLz, by simp, sz1 _ _ hxt19, rfl, ?_, hsz, fun H20 s20 => ?_⟩
    · exact all2 (ReprStep.own (ok_Machine_repr T) T.Machine_repr.b T.Machine_repr.m (krM T (hx19.same sz1)) (by rw [sizeLine_eq]; omega)) (ReprStep.own (ok_Machine_repr T) T.Machine_repr.b T.Machine_repr.m (krM T (hy19.same sz1)) (by rw [sizeLine_eq]; omega))
    refine ⟨_, rfl, ?_⟩
    have e1 := q H20 (T19.ext (sz1.trans s20)) (kE.trans ((Kp.ext E18).trans (k19.trans (Kp.same (sz1.trans s20)))))
    refine ⟨rfl, ?_⟩
    rw [decide_eq_true (rfl : (V.str (listText [spk sg R1 k1, spk sg R2 k2])) = _)]
    exact e1
end
end Lw
namespace Lw
open PySem PySem.Spec PyProof.Rows L3 NdefX
open L2 hiding del del_same del_ne
theorem all_id_rep (n : Nat) : (List.replicate n true).all id = true := by
  induction n with
  | zero => rfl
  | succ n ih => rw [List.replicate_succ, List.all_cons, ih]; rfl
section
variable {w : World} {K : PySem.W.Frag} {mg : Str → Option Value} {base : Heap} {Pt : Nat → Addr} {c0 c1 c2 : Addr}
def spLaw (K : PySem.W.Frag) (Pt : Nat → Addr) : Sp := fun vs H Q _ => ∃ (a : Addr) (ns : List Int), vs = [.ref a] ∧ SqL K H a (ns.map V.int) ∧ TabsN (NTs Pt) H ∧ ∀ H', Q (.bl true) H'
theorem ok_law (T : All K mg) (hcd0 : T.d_law_refusals_right.code = .ref c0) (TB0 : LamX.TabB base mg c0 (Pt 0)) (hcd1 : T.d_law_change.code = .ref c1) (TB1 : LamX.TabB base mg c1 (Pt 1)) (hcd2 : T.d_law_right.code = .ref c2) (TB2 : LamX.TabB base mg c2 (Pt 2)) (hD : Dst Pt) : FnOkG PW w K mg base CX0 20 T.f_law T.d_law ["_law_script"] (spLaw K Pt) := by
  refine okG T.law.F sc_law (fun vs H Q E h => ?_) (fun cdv A outer s H vs Q E hr hG h => ?_)
  · obtain ⟨a, ns, rfl, _⟩ := h
    rfl
  · obtain ⟨a, ns, rfl, hS, hT, q⟩ := h
    refine ⟨_, pss_one (ps_ret (pe_callB (cr_all rfl) (by rfl) T.b_all PyProof.Rows.boot_all (pa_cons (pe_lc (own := [("_law_k", 1)]) (g := gName 1) (tt := tYes) rfl sc_law.nd (pi_range1 rfl T.b_range (pa_cons (pe_callB (call_max2 rfl) (by rfl) T.b_max PyProof.Rows.boot_max (pa_cons pe_int (pa_cons (pe_callB (call_min2 rfl) (by rfl) T.b_min PyProof.Rows.boot_min (pa_cons (pe_callB call_len_seq (by rfl) T.b_len PySem.boot_len (pa_cons (pv 0) pa_nil)) (pa_cons pe_int pa_nil))) pa_nil))) pa_nil))
          (blkOk_by (own := [("_law_k", 1)]) (N := ["_law_script", "_law_k"]) (sc := defScope s_law) (by decide +kernel))
          (fun _ _ _ _ _ => pg_name (i := 1) sc_law.nd rfl (by first | exact Or.inl rfl | exact Or.inr rfl)) (fun _ _ _ _ _ => pts_nil)
          (fun _ _ _ _ _ => (pe_callG (ok_law_right T hcd0 TB0 hcd1 TB1 hcd2 TB2 hD) (hr.mono (by decide)) hG (by rfl) T.law_right.g T.law_right.F.kp T.law_right.b pass0 (pa_cons (pe_call (ok_law_pot T) (hr.mono (by decide)) (by rfl) T.law_pot.g T.law_pot.F.kp T.law_pot.b .nil pass0 (pa_cons (pv 0) (pa_cons (pv 1) pa_nil))) pa_nil)))) pa_nil))), ?_⟩
    try dsimp only [cxOf]
    refine ⟨_, rfl, a, _, rfl, .inl hS, _, _, rfl, _, _, rfl, ?_⟩
    refine ⟨_, rfl, ?_, ?_, fun D nD => ?_⟩
    · split <;> split <;> omega
    · split <;> split <;> omega
    have hn : ((if (if ((ns.map V.int).length : Int) > 2 then 2 else ((ns.map V.int).length : Int)) > 1 then (if ((ns.map V.int).length : Int) > 2 then 2 else ((ns.map V.int).length : Int)) else 1) : Int).toNat ≤ 2 := by
      split <;> split <;> omega
    have hAD : (∀ H', SqL K H' a (ns.map V.int)) ∨ a ≠ D := by
      rcases hS with (h | ⟨o', h⟩) | h
      · exact .inr (ne_of_none h nD)
      · exact .inr (ne_of_none h nD)
      · exact .inl fun H' => .inr h
    refine lc_gen2 walk_range (fun H' => TabsN (NTs Pt) H' ∧ SqL K H' a (ns.map V.int)) (fun i acc => acc = List.replicate i (.bl true)) ?_ (fun i acc e => by rw [e]; simp) rfl
      ⟨hT.ext (same_upd nD), sq_new hS nD⟩ (fun H' acc acc' hD r => ⟨tabs_lst r.1 hD (fun b o e n => by rw [upd_ne n]; exact e), hAD.elim (fun h => h _) (fun n => sq_put r.2 n)⟩) (fun _ _ => trivial) (fun i x H7 H8 acc C N hi r hD ha y c n => ?_) (fun H7 xs r hD ha => ?_)
    · rw [sizeLine_eq]
      exact Nat.le_trans hn (by decide)
    · obtain ⟨rfl, rfl⟩ := y
      have hi4 : i < 2 := Nat.lt_of_lt_of_le hi hn
      refine ⟨rfl, yes_te ?_⟩
      refine ⟨_, rfl, _, rfl, a, ns, i, congrArg (fun z => [V.ref a, V.int z]) (Int.zero_add _), r.2, by omega, fun H9 p s9 n9 hp9 => ?_⟩
      refine ⟨p, rfl, hp9, r.1.ext s9, fun H10 t10 k10 => ?_⟩
      refine c _ _ ⟨t10, ?_⟩ (k10 _ _ (s9 _ _ hD) (fun m => (ne_of_none hD n9) (List.mem_singleton.mp m)) (fun ps z => by cases z)) ?_
      · rcases r.2 with (h | ⟨o', h⟩) | h
        · exact .inl (.inl (k10 _ _ (s9 _ _ h) (fun m => (ne_of_none h n9) (List.mem_singleton.mp m)) (fun ps z => by cases z)))
        · exact .inl (.inr ⟨o', k10 _ _ (s9 _ _ h) (fun m => (ne_of_none h n9) (List.mem_singleton.mp m)) (fun ps z => by cases z)⟩)
        · exact .inr h
      rw [ha, List.replicate_succ']
    · subst ha
      refine ⟨D, List.replicate _ true, rfl, .inl (.inl (by rw [hD, List.map_replicate])), ?_⟩
      rw [all_id_rep]
      exact q _
def ptOf (P0 P1 P2 : Addr) : Nat → Addr
  | 0 => P0
  | 1 => P1
  | _ => P2
theorem fin {w : World} {K : PySem.W.Frag} {mg mb : Str → Option Value} {fa fl a c0 c1 c2 P0 P1 P2 : Addr} {s₁ : Shared} {vs : List Value} {ns : List Int}
    (KX : K.In s₁.heap) (hns : s₁.heap.Ns mainGlobals mg) (hb : s₁.heap.Ns builtinsNs mb) (hbb : ∀ x : Str, x ≠ "__name__" → mb x = bootBuiltins x) (hlim : s₁.heap.NoLimit) (hg : s₁.gens = #[])
    (hT0 : s₁.heap.get? P0 = some (PySem.W.tabObj #[])) (hT1 : s₁.heap.get? P1 = some (PySem.W.tabObj #[])) (hT2 : s₁.heap.get? P2 = some (PySem.W.tabObj #[]))
    (nT0 : K.lookup P0 = none) (nT1 : K.lookup P1 = none) (nT2 : K.lookup P2 = none) (hC0 : PySem.W.codeHdIn K c0 P0 = true) (hC1 : PySem.W.codeHdIn K c1 P1 = true) (hC2 : PySem.W.codeHdIn K c2 P2 = true) (h01 : P0 ≠ P1) (h02 : P0 ≠ P2) (h12 : P1 ≠ P2)
    (hbm : ∃ (bm : Addr) (ob : Obj), mg "__builtins__" = some (.ref bm) ∧ bm ≠ builtinsNs ∧ s₁.heap.get? bm = some ob ∧ ob.cls = .type "module" ∧ ob.dict = some builtinsNs ∧ ob.data = .plain)
    (ha : s₁.heap.get? a = some { cls := .type "list", data := .seq vs.toArray }) (hi : IntsAre vs ns) (hl : ns.length ≤ sizeLine) (hmg : mg "law" = some (.ref fa))
    (hall : ∃ T : All K mg, T.f_law = fl ∧ T.d_law_refusals_right.code = .ref c0 ∧ T.d_law_change.code = .ref c1 ∧ T.d_law_right.code = .ref c2) :
    codeAny (model PW w) callerA (.call (.ref fa) ⟨[.ref a], []⟩) (fun r s' => r = .ok (.ret (.bool true)) ∧ OldK s₁.heap s'.heap ∧ s'.os = s₁.os ∧ AllBare s'.gens) s₁ := by
  obtain ⟨T, _, hcd0, hcd1, hcd2⟩ := hall
  have e : T.f_law = fa := by
    have h := T.law.g
    rw [hmg] at h
    exact (Value.ref.inj (Option.some.inj h)).symm
  rw [← e]
  have csN : ∀ {Pr : Addr × Addr → Prop}, Pr (c0, P0) → Pr (c1, P1) → Pr (c2, P2) → ∀ p ∈ [(c0, P0), (c1, P1), (c2, P2)], Pr p := fun {Pr} h0 h1 h2 p hp => by
    rcases List.mem_cons.mp hp with rfl | hp
    · exact h0
    rcases List.mem_cons.mp hp with rfl | hp
    · exact h1
    rw [List.mem_singleton.mp hp]; exact h2
  have m0 : (c0, P0) ∈ [(c0, P0), (c1, P1), (c2, P2)] := List.mem_cons_self
  have m1 : (c1, P1) ∈ [(c0, P0), (c1, P1), (c2, P2)] := List.mem_cons_of_mem _ List.mem_cons_self
  have m2 : (c2, P2) ∈ [(c0, P0), (c1, P1), (c2, P2)] := List.mem_cons_of_mem _ (List.mem_cons_of_mem _ List.mem_cons_self)
  refine law_callG (cs := [(c0, P0), (c1, P1), (c2, P2)]) (k := 20) (sp := spLaw K (ptOf P0 P1 P2)) KX hns hb hbb hlim hg (csN hT0 hT1 hT2) (csN nT0 nT1 nT2) (csN (PySem.W.codeHd_of_K KX hC0) (PySem.W.codeHd_of_K KX hC1) (PySem.W.codeHd_of_K KX hC2)) hbm ha hi hl ⟨rfl, by decide, by decide⟩ (fun base hK hM TB => ok_law (Pt := ptOf P0 P1 P2) T hcd0 (TB _ m0) hcd1 (TB _ m1) hcd2 (TB _ m2) ⟨h01, h02, h12⟩) T.law.b (fun H hH hS => ?_)
  refine ⟨a, ns, rfl, hS, fun p hp => ?_, fun H' => rfl⟩
  rcases List.mem_cons.mp hp with rfl | hp
  · exact TabN.nil (hH _ m0)
  rcases List.mem_cons.mp hp with rfl | hp
  · exact TabN.nil (hH _ m1)
  rw [List.mem_singleton.mp hp]; exact TabN.nil (hH _ m2)
end
end Lw
namespace Lw
open PySem PySem.Spec PyProof.Rows L2 L3
theorem all_mk {K : PySem.W.Frag} {h : Heap} {mg : Str → Option Value} (X : K.In h) (G : h.Ns mainGlobals mg)
    {f_is_integer : Addr} {oc_is_integer kV_is_integer dc_is_integer pm_is_integer cd_is_integer ct_is_integer : Value} {od_is_integer an_is_integer : Option Addr} {sl_is_integer : Array (Option Value)}
    (a_is_integer : PySem.W.nsIn K mainGlobals "is_integer" = some (some (.ref f_is_integer))) (l_is_integer : K.lookup f_is_integer = some ⟨oc_is_integer, od_is_integer, .func (PySem.W.fnOf "is_integer" "is_integer" (defArgs s_is_integer) (defBody s_is_integer) (defScope s_is_integer) .none kV_is_integer dc_is_integer pm_is_integer an_is_integer cd_is_integer ct_is_integer), sl_is_integer⟩) (e_is_integer : PySem.W.codeIn K cd_is_integer "is_integer" = true) (k_is_integer : PySem.W.keepIn K (.ref f_is_integer) = true)
    {f_is_count : Addr} {oc_is_count kV_is_count dc_is_count pm_is_count cd_is_count ct_is_count : Value} {od_is_count an_is_count : Option Addr} {sl_is_count : Array (Option Value)}
    (a_is_count : PySem.W.nsIn K mainGlobals "is_count" = some (some (.ref f_is_count))) (l_is_count : K.lookup f_is_count = some ⟨oc_is_count, od_is_count, .func (PySem.W.fnOf "is_count" "is_count" (defArgs s_is_count) (defBody s_is_count) (defScope s_is_count) .none kV_is_count dc_is_count pm_is_count an_is_count cd_is_count ct_is_count), sl_is_count⟩) (e_is_count : PySem.W.codeIn K cd_is_count "is_count" = true) (k_is_count : PySem.W.keepIn K (.ref f_is_count) = true)
    {f_is_list : Addr} {oc_is_list kV_is_list dc_is_list pm_is_list cd_is_list ct_is_list : Value} {od_is_list an_is_list : Option Addr} {sl_is_list : Array (Option Value)}
    (a_is_list : PySem.W.nsIn K mainGlobals "is_list" = some (some (.ref f_is_list))) (l_is_list : K.lookup f_is_list = some ⟨oc_is_list, od_is_list, .func (PySem.W.fnOf "is_list" "is_list" (defArgs s_is_list) (defBody s_is_list) (defScope s_is_list) .none kV_is_list dc_is_list pm_is_list an_is_list cd_is_list ct_is_list), sl_is_list⟩) (e_is_list : PySem.W.codeIn K cd_is_list "is_list" = true) (k_is_list : PySem.W.keepIn K (.ref f_is_list) = true)
    {f_is_text : Addr} {oc_is_text kV_is_text dc_is_text pm_is_text cd_is_text ct_is_text : Value} {od_is_text an_is_text : Option Addr} {sl_is_text : Array (Option Value)}
    (a_is_text : PySem.W.nsIn K mainGlobals "is_text" = some (some (.ref f_is_text))) (l_is_text : K.lookup f_is_text = some ⟨oc_is_text, od_is_text, .func (PySem.W.fnOf "is_text" "is_text" (defArgs s_is_text) (defBody s_is_text) (defScope s_is_text) .none kV_is_text dc_is_text pm_is_text an_is_text cd_is_text ct_is_text), sl_is_text⟩) (e_is_text : PySem.W.codeIn K cd_is_text "is_text" = true) (k_is_text : PySem.W.keepIn K (.ref f_is_text) = true)
    {f_are_letters : Addr} {oc_are_letters kV_are_letters dc_are_letters pm_are_letters cd_are_letters ct_are_letters : Value} {od_are_letters an_are_letters : Option Addr} {sl_are_letters : Array (Option Value)}
    (a_are_letters : PySem.W.nsIn K mainGlobals "are_letters" = some (some (.ref f_are_letters))) (l_are_letters : K.lookup f_are_letters = some ⟨oc_are_letters, od_are_letters, .func (PySem.W.fnOf "are_letters" "are_letters" (defArgs s_are_letters) (defBody s_are_letters) (defScope s_are_letters) .none kV_are_letters dc_are_letters pm_are_letters an_are_letters cd_are_letters ct_are_letters), sl_are_letters⟩) (e_are_letters : PySem.W.codeIn K cd_are_letters "are_letters" = true) (k_are_letters : PySem.W.keepIn K (.ref f_are_letters) = true)
    {f_is_text_over : Addr} {oc_is_text_over kV_is_text_over dc_is_text_over pm_is_text_over cd_is_text_over ct_is_text_over : Value} {od_is_text_over an_is_text_over : Option Addr} {sl_is_text_over : Array (Option Value)}
    (a_is_text_over : PySem.W.nsIn K mainGlobals "is_text_over" = some (some (.ref f_is_text_over))) (l_is_text_over : K.lookup f_is_text_over = some ⟨oc_is_text_over, od_is_text_over, .func (PySem.W.fnOf "is_text_over" "is_text_over" (defArgs s_is_text_over) (defBody s_is_text_over) (defScope s_is_text_over) .none kV_is_text_over dc_is_text_over pm_is_text_over an_is_text_over cd_is_text_over ct_is_text_over), sl_is_text_over⟩) (e_is_text_over : PySem.W.codeIn K cd_is_text_over "is_text_over" = true) (k_is_text_over : PySem.W.keepIn K (.ref f_is_text_over) = true)
    {f_want_few : Addr} {oc_want_few kV_want_few dc_want_few pm_want_few cd_want_few ct_want_few : Value} {od_want_few an_want_few : Option Addr} {sl_want_few : Array (Option Value)}
    (a_want_few : PySem.W.nsIn K mainGlobals "want_few" = some (some (.ref f_want_few))) (l_want_few : K.lookup f_want_few = some ⟨oc_want_few, od_want_few, .func (PySem.W.fnOf "want_few" "want_few" (defArgs s_want_few) (defBody s_want_few) (defScope s_want_few) .none kV_want_few dc_want_few pm_want_few an_want_few cd_want_few ct_want_few), sl_want_few⟩) (e_want_few : PySem.W.codeIn K cd_want_few "want_few" = true) (k_want_few : PySem.W.keepIn K (.ref f_want_few) = true)
    {f_is_row : Addr} {oc_is_row kV_is_row dc_is_row pm_is_row cd_is_row ct_is_row : Value} {od_is_row an_is_row : Option Addr} {sl_is_row : Array (Option Value)}
    (a_is_row : PySem.W.nsIn K mainGlobals "is_row" = some (some (.ref f_is_row))) (l_is_row : K.lookup f_is_row = some ⟨oc_is_row, od_is_row, .func (PySem.W.fnOf "is_row" "is_row" (defArgs s_is_row) (defBody s_is_row) (defScope s_is_row) .none kV_is_row dc_is_row pm_is_row an_is_row cd_is_row ct_is_row), sl_is_row⟩) (e_is_row : PySem.W.codeIn K cd_is_row "is_row" = true) (k_is_row : PySem.W.keepIn K (.ref f_is_row) = true)
    {f_want_machine : Addr} {oc_want_machine kV_want_machine dc_want_machine pm_want_machine cd_want_machine ct_want_machine : Value} {od_want_machine an_want_machine : Option Addr} {sl_want_machine : Array (Option Value)}
    (a_want_machine : PySem.W.nsIn K mainGlobals "want_machine" = some (some (.ref f_want_machine))) (l_want_machine : K.lookup f_want_machine = some ⟨oc_want_machine, od_want_machine, .func (PySem.W.fnOf "want_machine" "want_machine" (defArgs s_want_machine) (defBody s_want_machine) (defScope s_want_machine) .none kV_want_machine dc_want_machine pm_want_machine an_want_machine cd_want_machine ct_want_machine), sl_want_machine⟩) (e_want_machine : PySem.W.codeIn K cd_want_machine "want_machine" = true) (k_want_machine : PySem.W.keepIn K (.ref f_want_machine) = true)
    {f_met_from : Addr} {oc_met_from kV_met_from dc_met_from pm_met_from cd_met_from ct_met_from : Value} {od_met_from an_met_from : Option Addr} {sl_met_from : Array (Option Value)}
    (a_met_from : PySem.W.nsIn K mainGlobals "met_from" = some (some (.ref f_met_from))) (l_met_from : K.lookup f_met_from = some ⟨oc_met_from, od_met_from, .func (PySem.W.fnOf "met_from" "met_from" (defArgs s_met_from) (defBody s_met_from) (defScope s_met_from) .none kV_met_from dc_met_from pm_met_from an_met_from cd_met_from ct_met_from), sl_met_from⟩) (e_met_from : PySem.W.codeIn K cd_met_from "met_from" = true) (k_met_from : PySem.W.keepIn K (.ref f_met_from) = true)
    {f_want_text : Addr} {oc_want_text kV_want_text dc_want_text pm_want_text cd_want_text ct_want_text : Value} {od_want_text an_want_text : Option Addr} {sl_want_text : Array (Option Value)}
    (a_want_text : PySem.W.nsIn K mainGlobals "want_text" = some (some (.ref f_want_text))) (l_want_text : K.lookup f_want_text = some ⟨oc_want_text, od_want_text, .func (PySem.W.fnOf "want_text" "want_text" (defArgs s_want_text) (defBody s_want_text) (defScope s_want_text) .none kV_want_text dc_want_text pm_want_text an_want_text cd_want_text ct_want_text), sl_want_text⟩) (e_want_text : PySem.W.codeIn K cd_want_text "want_text" = true) (k_want_text : PySem.W.keepIn K (.ref f_want_text) = true)
    {f_want_letter : Addr} {oc_want_letter kV_want_letter dc_want_letter pm_want_letter cd_want_letter ct_want_letter : Value} {od_want_letter an_want_letter : Option Addr} {sl_want_letter : Array (Option Value)}
    (a_want_letter : PySem.W.nsIn K mainGlobals "want_letter" = some (some (.ref f_want_letter))) (l_want_letter : K.lookup f_want_letter = some ⟨oc_want_letter, od_want_letter, .func (PySem.W.fnOf "want_letter" "want_letter" (defArgs s_want_letter) (defBody s_want_letter) (defScope s_want_letter) .none kV_want_letter dc_want_letter pm_want_letter an_want_letter cd_want_letter ct_want_letter), sl_want_letter⟩) (e_want_letter : PySem.W.codeIn K cd_want_letter "want_letter" = true) (k_want_letter : PySem.W.keepIn K (.ref f_want_letter) = true)
    {f_want_place : Addr} {oc_want_place kV_want_place dc_want_place pm_want_place cd_want_place ct_want_place : Value} {od_want_place an_want_place : Option Addr} {sl_want_place : Array (Option Value)}
    (a_want_place : PySem.W.nsIn K mainGlobals "want_place" = some (some (.ref f_want_place))) (l_want_place : K.lookup f_want_place = some ⟨oc_want_place, od_want_place, .func (PySem.W.fnOf "want_place" "want_place" (defArgs s_want_place) (defBody s_want_place) (defScope s_want_place) .none kV_want_place dc_want_place pm_want_place an_want_place cd_want_place ct_want_place), sl_want_place⟩) (e_want_place : PySem.W.codeIn K cd_want_place "want_place" = true) (k_want_place : PySem.W.keepIn K (.ref f_want_place) = true)
    {f_want_same : Addr} {oc_want_same kV_want_same dc_want_same pm_want_same cd_want_same ct_want_same : Value} {od_want_same an_want_same : Option Addr} {sl_want_same : Array (Option Value)}
    (a_want_same : PySem.W.nsIn K mainGlobals "want_same" = some (some (.ref f_want_same))) (l_want_same : K.lookup f_want_same = some ⟨oc_want_same, od_want_same, .func (PySem.W.fnOf "want_same" "want_same" (defArgs s_want_same) (defBody s_want_same) (defScope s_want_same) .none kV_want_same dc_want_same pm_want_same an_want_same cd_want_same ct_want_same), sl_want_same⟩) (e_want_same : PySem.W.codeIn K cd_want_same "want_same" = true) (k_want_same : PySem.W.keepIn K (.ref f_want_same) = true)
    {f_want_right : Addr} {oc_want_right kV_want_right dc_want_right pm_want_right cd_want_right ct_want_right : Value} {od_want_right an_want_right : Option Addr} {sl_want_right : Array (Option Value)}
    (a_want_right : PySem.W.nsIn K mainGlobals "want_right" = some (some (.ref f_want_right))) (l_want_right : K.lookup f_want_right = some ⟨oc_want_right, od_want_right, .func (PySem.W.fnOf "want_right" "want_right" (defArgs s_want_right) (defBody s_want_right) (defScope s_want_right) .none kV_want_right dc_want_right pm_want_right an_want_right cd_want_right ct_want_right), sl_want_right⟩) (e_want_right : PySem.W.codeIn K cd_want_right "want_right" = true) (k_want_right : PySem.W.keepIn K (.ref f_want_right) = true)
    {f_led : Addr} {oc_led kV_led dc_led pm_led cd_led ct_led : Value} {od_led an_led : Option Addr} {sl_led : Array (Option Value)}
    (a_led : PySem.W.nsIn K mainGlobals "led" = some (some (.ref f_led))) (l_led : K.lookup f_led = some ⟨oc_led, od_led, .func (PySem.W.fnOf "led" "led" (defArgs s_led) (defBody s_led) (defScope s_led) .none kV_led dc_led pm_led an_led cd_led ct_led), sl_led⟩) (e_led : PySem.W.codeIn K cd_led "led" = true) (k_led : PySem.W.keepIn K (.ref f_led) = true)
    {f_is_taken : Addr} {oc_is_taken kV_is_taken dc_is_taken pm_is_taken cd_is_taken ct_is_taken : Value} {od_is_taken an_is_taken : Option Addr} {sl_is_taken : Array (Option Value)}
    (a_is_taken : PySem.W.nsIn K mainGlobals "is_taken" = some (some (.ref f_is_taken))) (l_is_taken : K.lookup f_is_taken = some ⟨oc_is_taken, od_is_taken, .func (PySem.W.fnOf "is_taken" "is_taken" (defArgs s_is_taken) (defBody s_is_taken) (defScope s_is_taken) .none kV_is_taken dc_is_taken pm_is_taken an_is_taken cd_is_taken ct_is_taken), sl_is_taken⟩) (e_is_taken : PySem.W.codeIn K cd_is_taken "is_taken" = true) (k_is_taken : PySem.W.keepIn K (.ref f_is_taken) = true)
    {f_is_so : Addr} {oc_is_so kV_is_so dc_is_so pm_is_so cd_is_so ct_is_so : Value} {od_is_so an_is_so : Option Addr} {sl_is_so : Array (Option Value)}
    (a_is_so : PySem.W.nsIn K mainGlobals "is_so" = some (some (.ref f_is_so))) (l_is_so : K.lookup f_is_so = some ⟨oc_is_so, od_is_so, .func (PySem.W.fnOf "is_so" "is_so" (defArgs s_is_so) (defBody s_is_so) (defScope s_is_so) .none kV_is_so dc_is_so pm_is_so an_is_so cd_is_so ct_is_so), sl_is_so⟩) (e_is_so : PySem.W.codeIn K cd_is_so "is_so" = true) (k_is_so : PySem.W.keepIn K (.ref f_is_so) = true)
    {f_paired_by : Addr} {oc_paired_by kV_paired_by dc_paired_by pm_paired_by cd_paired_by ct_paired_by : Value} {od_paired_by an_paired_by : Option Addr} {sl_paired_by : Array (Option Value)}
    (a_paired_by : PySem.W.nsIn K mainGlobals "paired_by" = some (some (.ref f_paired_by))) (l_paired_by : K.lookup f_paired_by = some ⟨oc_paired_by, od_paired_by, .func (PySem.W.fnOf "paired_by" "paired_by" (defArgs s_paired_by) (defBody s_paired_by) (defScope s_paired_by) .none kV_paired_by dc_paired_by pm_paired_by an_paired_by cd_paired_by ct_paired_by), sl_paired_by⟩) (e_paired_by : PySem.W.codeIn K cd_paired_by "paired_by" = true) (k_paired_by : PySem.W.keepIn K (.ref f_paired_by) = true)
    {f_lists_of : Addr} {oc_lists_of kV_lists_of dc_lists_of pm_lists_of cd_lists_of ct_lists_of : Value} {od_lists_of an_lists_of : Option Addr} {sl_lists_of : Array (Option Value)}
    (a_lists_of : PySem.W.nsIn K mainGlobals "lists_of" = some (some (.ref f_lists_of))) (l_lists_of : K.lookup f_lists_of = some ⟨oc_lists_of, od_lists_of, .func (PySem.W.fnOf "lists_of" "lists_of" (defArgs s_lists_of) (defBody s_lists_of) (defScope s_lists_of) .none kV_lists_of dc_lists_of pm_lists_of an_lists_of cd_lists_of ct_lists_of), sl_lists_of⟩) (e_lists_of : PySem.W.codeIn K cd_lists_of "lists_of" = true) (k_lists_of : PySem.W.keepIn K (.ref f_lists_of) = true)
    {f_want_listed : Addr} {oc_want_listed kV_want_listed dc_want_listed pm_want_listed cd_want_listed ct_want_listed : Value} {od_want_listed an_want_listed : Option Addr} {sl_want_listed : Array (Option Value)}
    (a_want_listed : PySem.W.nsIn K mainGlobals "want_listed" = some (some (.ref f_want_listed))) (l_want_listed : K.lookup f_want_listed = some ⟨oc_want_listed, od_want_listed, .func (PySem.W.fnOf "want_listed" "want_listed" (defArgs s_want_listed) (defBody s_want_listed) (defScope s_want_listed) .none kV_want_listed dc_want_listed pm_want_listed an_want_listed cd_want_listed ct_want_listed), sl_want_listed⟩) (e_want_listed : PySem.W.codeIn K cd_want_listed "want_listed" = true) (k_want_listed : PySem.W.keepIn K (.ref f_want_listed) = true)
    {f_turned_by : Addr} {oc_turned_by kV_turned_by dc_turned_by pm_turned_by cd_turned_by ct_turned_by : Value} {od_turned_by an_turned_by : Option Addr} {sl_turned_by : Array (Option Value)}
    (a_turned_by : PySem.W.nsIn K mainGlobals "turned_by" = some (some (.ref f_turned_by))) (l_turned_by : K.lookup f_turned_by = some ⟨oc_turned_by, od_turned_by, .func (PySem.W.fnOf "turned_by" "turned_by" (defArgs s_turned_by) (defBody s_turned_by) (defScope s_turned_by) .none kV_turned_by dc_turned_by pm_turned_by an_turned_by cd_turned_by ct_turned_by), sl_turned_by⟩) (e_turned_by : PySem.W.codeIn K cd_turned_by "turned_by" = true) (k_turned_by : PySem.W.keepIn K (.ref f_turned_by) = true)
    {f_turned : Addr} {oc_turned kV_turned dc_turned pm_turned cd_turned ct_turned : Value} {od_turned an_turned : Option Addr} {sl_turned : Array (Option Value)}
    (a_turned : PySem.W.nsIn K mainGlobals "turned" = some (some (.ref f_turned))) (l_turned : K.lookup f_turned = some ⟨oc_turned, od_turned, .func (PySem.W.fnOf "turned" "turned" (defArgs s_turned) (defBody s_turned) (defScope s_turned) .none kV_turned dc_turned pm_turned an_turned cd_turned ct_turned), sl_turned⟩) (e_turned : PySem.W.codeIn K cd_turned "turned" = true) (k_turned : PySem.W.keepIn K (.ref f_turned) = true)
    {f_redirected : Addr} {oc_redirected kV_redirected dc_redirected pm_redirected cd_redirected ct_redirected : Value} {od_redirected an_redirected : Option Addr} {sl_redirected : Array (Option Value)}
    (a_redirected : PySem.W.nsIn K mainGlobals "redirected" = some (some (.ref f_redirected))) (l_redirected : K.lookup f_redirected = some ⟨oc_redirected, od_redirected, .func (PySem.W.fnOf "redirected" "redirected" (defArgs s_redirected) (defBody s_redirected) (defScope s_redirected) .none kV_redirected dc_redirected pm_redirected an_redirected cd_redirected ct_redirected), sl_redirected⟩) (e_redirected : PySem.W.codeIn K cd_redirected "redirected" = true) (k_redirected : PySem.W.keepIn K (.ref f_redirected) = true)
    {f_law_pot : Addr} {oc_law_pot kV_law_pot dc_law_pot pm_law_pot cd_law_pot ct_law_pot : Value} {od_law_pot an_law_pot : Option Addr} {sl_law_pot : Array (Option Value)}
    (a_law_pot : PySem.W.nsIn K mainGlobals "_law_pot" = some (some (.ref f_law_pot))) (l_law_pot : K.lookup f_law_pot = some ⟨oc_law_pot, od_law_pot, .func (PySem.W.fnOf "_law_pot" "_law_pot" (defArgs s_law_pot) (defBody s_law_pot) (defScope s_law_pot) .none kV_law_pot dc_law_pot pm_law_pot an_law_pot cd_law_pot ct_law_pot), sl_law_pot⟩) (e_law_pot : PySem.W.codeIn K cd_law_pot "_law_pot" = true) (k_law_pot : PySem.W.keepIn K (.ref f_law_pot) = true)
    {f_law_draw : Addr} {oc_law_draw kV_law_draw dc_law_draw pm_law_draw cd_law_draw ct_law_draw : Value} {od_law_draw an_law_draw : Option Addr} {sl_law_draw : Array (Option Value)}
    (a_law_draw : PySem.W.nsIn K mainGlobals "_law_draw" = some (some (.ref f_law_draw))) (l_law_draw : K.lookup f_law_draw = some ⟨oc_law_draw, od_law_draw, .func (PySem.W.fnOf "_law_draw" "_law_draw" (defArgs s_law_draw) (defBody s_law_draw) (defScope s_law_draw) .none kV_law_draw dc_law_draw pm_law_draw an_law_draw cd_law_draw ct_law_draw), sl_law_draw⟩) (e_law_draw : PySem.W.codeIn K cd_law_draw "_law_draw" = true) (k_law_draw : PySem.W.keepIn K (.ref f_law_draw) = true)
    {f_law_pick : Addr} {oc_law_pick kV_law_pick dc_law_pick pm_law_pick cd_law_pick ct_law_pick : Value} {od_law_pick an_law_pick : Option Addr} {sl_law_pick : Array (Option Value)}
    (a_law_pick : PySem.W.nsIn K mainGlobals "_law_pick" = some (some (.ref f_law_pick))) (l_law_pick : K.lookup f_law_pick = some ⟨oc_law_pick, od_law_pick, .func (PySem.W.fnOf "_law_pick" "_law_pick" (defArgs s_law_pick) (defBody s_law_pick) (defScope s_law_pick) .none kV_law_pick dc_law_pick pm_law_pick an_law_pick cd_law_pick ct_law_pick), sl_law_pick⟩) (e_law_pick : PySem.W.codeIn K cd_law_pick "_law_pick" = true) (k_law_pick : PySem.W.keepIn K (.ref f_law_pick) = true)
    {f_law_met : Addr} {oc_law_met kV_law_met dc_law_met pm_law_met cd_law_met ct_law_met : Value} {od_law_met an_law_met : Option Addr} {sl_law_met : Array (Option Value)}
    (a_law_met : PySem.W.nsIn K mainGlobals "_law_met" = some (some (.ref f_law_met))) (l_law_met : K.lookup f_law_met = some ⟨oc_law_met, od_law_met, .func (PySem.W.fnOf "_law_met" "_law_met" (defArgs s_law_met) (defBody s_law_met) (defScope s_law_met) .none kV_law_met dc_law_met pm_law_met an_law_met cd_law_met ct_law_met), sl_law_met⟩) (e_law_met : PySem.W.codeIn K cd_law_met "_law_met" = true) (k_law_met : PySem.W.keepIn K (.ref f_law_met) = true)
    {f_law_lines : Addr} {oc_law_lines kV_law_lines dc_law_lines pm_law_lines cd_law_lines ct_law_lines : Value} {od_law_lines an_law_lines : Option Addr} {sl_law_lines : Array (Option Value)}
    (a_law_lines : PySem.W.nsIn K mainGlobals "_law_lines" = some (some (.ref f_law_lines))) (l_law_lines : K.lookup f_law_lines = some ⟨oc_law_lines, od_law_lines, .func (PySem.W.fnOf "_law_lines" "_law_lines" (defArgs s_law_lines) (defBody s_law_lines) (defScope s_law_lines) .none kV_law_lines dc_law_lines pm_law_lines an_law_lines cd_law_lines ct_law_lines), sl_law_lines⟩) (e_law_lines : PySem.W.codeIn K cd_law_lines "_law_lines" = true) (k_law_lines : PySem.W.keepIn K (.ref f_law_lines) = true)
    {f_law_machine : Addr} {oc_law_machine kV_law_machine dc_law_machine pm_law_machine cd_law_machine ct_law_machine : Value} {od_law_machine an_law_machine : Option Addr} {sl_law_machine : Array (Option Value)}
    (a_law_machine : PySem.W.nsIn K mainGlobals "_law_machine" = some (some (.ref f_law_machine))) (l_law_machine : K.lookup f_law_machine = some ⟨oc_law_machine, od_law_machine, .func (PySem.W.fnOf "_law_machine" "_law_machine" (defArgs s_law_machine) (defBody s_law_machine) (defScope s_law_machine) .none kV_law_machine dc_law_machine pm_law_machine an_law_machine cd_law_machine ct_law_machine), sl_law_machine⟩) (e_law_machine : PySem.W.codeIn K cd_law_machine "_law_machine" = true) (k_law_machine : PySem.W.keepIn K (.ref f_law_machine) = true)
    {f_law_led : Addr} {oc_law_led kV_law_led dc_law_led pm_law_led cd_law_led ct_law_led : Value} {od_law_led an_law_led : Option Addr} {sl_law_led : Array (Option Value)}
    (a_law_led : PySem.W.nsIn K mainGlobals "_law_led" = some (some (.ref f_law_led))) (l_law_led : K.lookup f_law_led = some ⟨oc_law_led, od_law_led, .func (PySem.W.fnOf "_law_led" "_law_led" (defArgs s_law_led) (defBody s_law_led) (defScope s_law_led) .none kV_law_led dc_law_led pm_law_led an_law_led cd_law_led ct_law_led), sl_law_led⟩) (e_law_led : PySem.W.codeIn K cd_law_led "_law_led" = true) (k_law_led : PySem.W.keepIn K (.ref f_law_led) = true)
    {f_law_flipped : Addr} {oc_law_flipped kV_law_flipped dc_law_flipped pm_law_flipped cd_law_flipped ct_law_flipped : Value} {od_law_flipped an_law_flipped : Option Addr} {sl_law_flipped : Array (Option Value)}
    (a_law_flipped : PySem.W.nsIn K mainGlobals "_law_flipped" = some (some (.ref f_law_flipped))) (l_law_flipped : K.lookup f_law_flipped = some ⟨oc_law_flipped, od_law_flipped, .func (PySem.W.fnOf "_law_flipped" "_law_flipped" (defArgs s_law_flipped) (defBody s_law_flipped) (defScope s_law_flipped) .none kV_law_flipped dc_law_flipped pm_law_flipped an_law_flipped cd_law_flipped ct_law_flipped), sl_law_flipped⟩) (e_law_flipped : PySem.W.codeIn K cd_law_flipped "_law_flipped" = true) (k_law_flipped : PySem.W.keepIn K (.ref f_law_flipped) = true)
    {f_law_heard : Addr} {oc_law_heard kV_law_heard dc_law_heard pm_law_heard cd_law_heard ct_law_heard : Value} {od_law_heard an_law_heard : Option Addr} {sl_law_heard : Array (Option Value)}
    (a_law_heard : PySem.W.nsIn K mainGlobals "_law_heard" = some (some (.ref f_law_heard))) (l_law_heard : K.lookup f_law_heard = some ⟨oc_law_heard, od_law_heard, .func (PySem.W.fnOf "_law_heard" "_law_heard" (defArgs s_law_heard) (defBody s_law_heard) (defScope s_law_heard) .none kV_law_heard dc_law_heard pm_law_heard an_law_heard cd_law_heard ct_law_heard), sl_law_heard⟩) (e_law_heard : PySem.W.codeIn K cd_law_heard "_law_heard" = true) (k_law_heard : PySem.W.keepIn K (.ref f_law_heard) = true)
    {f_law_joined : Addr} {oc_law_joined kV_law_joined dc_law_joined pm_law_joined cd_law_joined ct_law_joined : Value} {od_law_joined an_law_joined : Option Addr} {sl_law_joined : Array (Option Value)}
    (a_law_joined : PySem.W.nsIn K mainGlobals "_law_joined" = some (some (.ref f_law_joined))) (l_law_joined : K.lookup f_law_joined = some ⟨oc_law_joined, od_law_joined, .func (PySem.W.fnOf "_law_joined" "_law_joined" (defArgs s_law_joined) (defBody s_law_joined) (defScope s_law_joined) .none kV_law_joined dc_law_joined pm_law_joined an_law_joined cd_law_joined ct_law_joined), sl_law_joined⟩) (e_law_joined : PySem.W.codeIn K cd_law_joined "_law_joined" = true) (k_law_joined : PySem.W.keepIn K (.ref f_law_joined) = true)
    {f_law_cut : Addr} {oc_law_cut kV_law_cut dc_law_cut pm_law_cut cd_law_cut ct_law_cut : Value} {od_law_cut an_law_cut : Option Addr} {sl_law_cut : Array (Option Value)}
    (a_law_cut : PySem.W.nsIn K mainGlobals "_law_cut" = some (some (.ref f_law_cut))) (l_law_cut : K.lookup f_law_cut = some ⟨oc_law_cut, od_law_cut, .func (PySem.W.fnOf "_law_cut" "_law_cut" (defArgs s_law_cut) (defBody s_law_cut) (defScope s_law_cut) .none kV_law_cut dc_law_cut pm_law_cut an_law_cut cd_law_cut ct_law_cut), sl_law_cut⟩) (e_law_cut : PySem.W.codeIn K cd_law_cut "_law_cut" = true) (k_law_cut : PySem.W.keepIn K (.ref f_law_cut) = true)
    {f_law_stands : Addr} {oc_law_stands kV_law_stands dc_law_stands pm_law_stands cd_law_stands ct_law_stands : Value} {od_law_stands an_law_stands : Option Addr} {sl_law_stands : Array (Option Value)}
    (a_law_stands : PySem.W.nsIn K mainGlobals "_law_stands" = some (some (.ref f_law_stands))) (l_law_stands : K.lookup f_law_stands = some ⟨oc_law_stands, od_law_stands, .func (PySem.W.fnOf "_law_stands" "_law_stands" (defArgs s_law_stands) (defBody s_law_stands) (defScope s_law_stands) .none kV_law_stands dc_law_stands pm_law_stands an_law_stands cd_law_stands ct_law_stands), sl_law_stands⟩) (e_law_stands : PySem.W.codeIn K cd_law_stands "_law_stands" = true) (k_law_stands : PySem.W.keepIn K (.ref f_law_stands) = true)
    {f_law_refusals_right : Addr} {oc_law_refusals_right kV_law_refusals_right dc_law_refusals_right pm_law_refusals_right cd_law_refusals_right ct_law_refusals_right : Value} {od_law_refusals_right an_law_refusals_right : Option Addr} {sl_law_refusals_right : Array (Option Value)}
    (a_law_refusals_right : PySem.W.nsIn K mainGlobals "_law_refusals_right" = some (some (.ref f_law_refusals_right))) (l_law_refusals_right : K.lookup f_law_refusals_right = some ⟨oc_law_refusals_right, od_law_refusals_right, .func (PySem.W.fnOf "_law_refusals_right" "_law_refusals_right" (defArgs s_law_refusals_right) (defBody s_law_refusals_right) (defScope s_law_refusals_right) .none kV_law_refusals_right dc_law_refusals_right pm_law_refusals_right an_law_refusals_right cd_law_refusals_right ct_law_refusals_right), sl_law_refusals_right⟩) (e_law_refusals_right : PySem.W.codeIn K cd_law_refusals_right "_law_refusals_right" = true) (k_law_refusals_right : PySem.W.keepIn K (.ref f_law_refusals_right) = true)
    {f_law_change : Addr} {oc_law_change kV_law_change dc_law_change pm_law_change cd_law_change ct_law_change : Value} {od_law_change an_law_change : Option Addr} {sl_law_change : Array (Option Value)}
    (a_law_change : PySem.W.nsIn K mainGlobals "_law_change" = some (some (.ref f_law_change))) (l_law_change : K.lookup f_law_change = some ⟨oc_law_change, od_law_change, .func (PySem.W.fnOf "_law_change" "_law_change" (defArgs s_law_change) (defBody s_law_change) (defScope s_law_change) .none kV_law_change dc_law_change pm_law_change an_law_change cd_law_change ct_law_change), sl_law_change⟩) (e_law_change : PySem.W.codeIn K cd_law_change "_law_change" = true) (k_law_change : PySem.W.keepIn K (.ref f_law_change) = true)
    {f_law_right : Addr} {oc_law_right kV_law_right dc_law_right pm_law_right cd_law_right ct_law_right : Value} {od_law_right an_law_right : Option Addr} {sl_law_right : Array (Option Value)}
    (a_law_right : PySem.W.nsIn K mainGlobals "_law_right" = some (some (.ref f_law_right))) (l_law_right : K.lookup f_law_right = some ⟨oc_law_right, od_law_right, .func (PySem.W.fnOf "_law_right" "_law_right" (defArgs s_law_right) (defBody s_law_right) (defScope s_law_right) .none kV_law_right dc_law_right pm_law_right an_law_right cd_law_right ct_law_right), sl_law_right⟩) (e_law_right : PySem.W.codeIn K cd_law_right "_law_right" = true) (k_law_right : PySem.W.keepIn K (.ref f_law_right) = true)
    {f_law : Addr} {oc_law kV_law dc_law pm_law cd_law ct_law : Value} {od_law an_law : Option Addr} {sl_law : Array (Option Value)}
    (a_law : PySem.W.nsIn K mainGlobals "law" = some (some (.ref f_law))) (l_law : K.lookup f_law = some ⟨oc_law, od_law, .func (PySem.W.fnOf "law" "law" (defArgs s_law) (defBody s_law) (defScope s_law) .none kV_law dc_law pm_law an_law cd_law ct_law), sl_law⟩) (e_law : PySem.W.codeIn K cd_law "law" = true) (k_law : PySem.W.keepIn K (.ref f_law) = true)
    {C_Machine : Addr} (a_Machine : PySem.W.nsIn K mainGlobals "Machine" = some (some (.ref C_Machine))) (pg_Machine : PySem.W.plainGet K C_Machine Str.empty = true) (hd_Machine : PySem.W.hasDictIn K C_Machine = true) (po_Machine : PySem.W.plainOver K C_Machine = true) (sa_Machine : PySem.W.findIn K (.ref C_Machine) "__setattr__" = some (some (.builtin "object.__setattr__"))) (mk_Machine : PySem.W.makesIn K C_Machine = true) (kc_Machine : PySem.W.keepIn K (.ref C_Machine) = true)
    (ca_Machine : PySem.W.findIn K (.ref C_Machine) "__class__" = some (some (.builtin "object.__class__"))) (cg_Machine : PySem.W.specialIn K (.builtin "object.__class__") "__get__" = some (some (.builtin "getset_descriptor.__get__"))) (ct_Machine : PySem.W.takesIn K (.builtin "object.__class__") = some true) (ne_Machine : PySem.W.findIn K (.ref C_Machine) "__ne__" = some (some (.builtin "object.__ne__"))) (tt_Machine : PySem.W.typeIn K (.ref C_Machine) = some (.type "type")) (cr_Machine : PySem.W.readsIn K C_Machine (.type "type") = true) (ck_Machine : PySem.W.specialIn K (.ref C_Machine) "__getattribute__" = some (some (.builtin "type.__getattribute__")))
    {u_Machine_MOST_PLACES : Tok} (cv_Machine_MOST_PLACES : PySem.W.findCls K (.ref C_Machine) (.type "type") "MOST_PLACES" = some (.val (.int 40 u_Machine_MOST_PLACES)))
    (nf_Machine_own_letters : PySem.W.findIn K (.ref C_Machine) "own_letters" = some none)
    (nf_Machine_own_rows : PySem.W.findIn K (.ref C_Machine) "own_rows" = some none)
    (nf_Machine_own_kinds : PySem.W.findIn K (.ref C_Machine) "own_kinds" = some none)
    {t_Machine_MOST_PLACES : Tok} (ka_Machine_MOST_PLACES : PySem.W.findIn K (.ref C_Machine) "MOST_PLACES" = some (some (.int 40 t_Machine_MOST_PLACES))) (kg_Machine_MOST_PLACES : PySem.W.specialIn K (.int 40 t_Machine_MOST_PLACES) "__get__" = some none)
    {f_Machine_init : Addr} {oc_Machine_init kV_Machine_init dc_Machine_init pm_Machine_init cd_Machine_init ct_Machine_init : Value} {od_Machine_init an_Machine_init : Option Addr} {sl_Machine_init : Array (Option Value)}
    (a_Machine_init : PySem.W.findIn K (.ref C_Machine) "__init__" = some (some (.ref f_Machine_init))) (i_Machine_init : PySem.W.isFn K (.ref f_Machine_init) = true)
    (l_Machine_init : K.lookup f_Machine_init = some ⟨oc_Machine_init, od_Machine_init, .func (PySem.W.fnOf "__init__" "Machine.__init__" (defArgs s_Machine_init) (defBody s_Machine_init) (defScope s_Machine_init) .none kV_Machine_init dc_Machine_init pm_Machine_init an_Machine_init cd_Machine_init ct_Machine_init), sl_Machine_init⟩) (e_Machine_init : PySem.W.codeIn K cd_Machine_init "Machine.__init__" = true) (k_Machine_init : PySem.W.keepIn K (.ref f_Machine_init) = true)
    {f_Machine_rows : Addr} {oc_Machine_rows kV_Machine_rows dc_Machine_rows pm_Machine_rows cd_Machine_rows ct_Machine_rows : Value} {od_Machine_rows an_Machine_rows : Option Addr} {sl_Machine_rows : Array (Option Value)}
    (a_Machine_rows : PySem.W.findIn K (.ref C_Machine) "rows" = some (some (.ref f_Machine_rows))) (i_Machine_rows : PySem.W.isFn K (.ref f_Machine_rows) = true)
    (l_Machine_rows : K.lookup f_Machine_rows = some ⟨oc_Machine_rows, od_Machine_rows, .func (PySem.W.fnOf "rows" "Machine.rows" (defArgs s_Machine_rows) (defBody s_Machine_rows) (defScope s_Machine_rows) .none kV_Machine_rows dc_Machine_rows pm_Machine_rows an_Machine_rows cd_Machine_rows ct_Machine_rows), sl_Machine_rows⟩) (e_Machine_rows : PySem.W.codeIn K cd_Machine_rows "Machine.rows" = true) (k_Machine_rows : PySem.W.keepIn K (.ref f_Machine_rows) = true)
    {f_Machine_kinds : Addr} {oc_Machine_kinds kV_Machine_kinds dc_Machine_kinds pm_Machine_kinds cd_Machine_kinds ct_Machine_kinds : Value} {od_Machine_kinds an_Machine_kinds : Option Addr} {sl_Machine_kinds : Array (Option Value)}
    (a_Machine_kinds : PySem.W.findIn K (.ref C_Machine) "kinds" = some (some (.ref f_Machine_kinds))) (i_Machine_kinds : PySem.W.isFn K (.ref f_Machine_kinds) = true)
    (l_Machine_kinds : K.lookup f_Machine_kinds = some ⟨oc_Machine_kinds, od_Machine_kinds, .func (PySem.W.fnOf "kinds" "Machine.kinds" (defArgs s_Machine_kinds) (defBody s_Machine_kinds) (defScope s_Machine_kinds) .none kV_Machine_kinds dc_Machine_kinds pm_Machine_kinds an_Machine_kinds cd_Machine_kinds ct_Machine_kinds), sl_Machine_kinds⟩) (e_Machine_kinds : PySem.W.codeIn K cd_Machine_kinds "Machine.kinds" = true) (k_Machine_kinds : PySem.W.keepIn K (.ref f_Machine_kinds) = true)
    {f_Machine_takes : Addr} {oc_Machine_takes kV_Machine_takes dc_Machine_takes pm_Machine_takes cd_Machine_takes ct_Machine_takes : Value} {od_Machine_takes an_Machine_takes : Option Addr} {sl_Machine_takes : Array (Option Value)}
    (a_Machine_takes : PySem.W.findIn K (.ref C_Machine) "takes" = some (some (.ref f_Machine_takes))) (i_Machine_takes : PySem.W.isFn K (.ref f_Machine_takes) = true)
    (l_Machine_takes : K.lookup f_Machine_takes = some ⟨oc_Machine_takes, od_Machine_takes, .func (PySem.W.fnOf "takes" "Machine.takes" (defArgs s_Machine_takes) (defBody s_Machine_takes) (defScope s_Machine_takes) .none kV_Machine_takes dc_Machine_takes pm_Machine_takes an_Machine_takes cd_Machine_takes ct_Machine_takes), sl_Machine_takes⟩) (e_Machine_takes : PySem.W.codeIn K cd_Machine_takes "Machine.takes" = true) (k_Machine_takes : PySem.W.keepIn K (.ref f_Machine_takes) = true)
    {f_Machine_len : Addr} {oc_Machine_len kV_Machine_len dc_Machine_len pm_Machine_len cd_Machine_len ct_Machine_len : Value} {od_Machine_len an_Machine_len : Option Addr} {sl_Machine_len : Array (Option Value)}
    (a_Machine_len : PySem.W.findIn K (.ref C_Machine) "__len__" = some (some (.ref f_Machine_len))) (i_Machine_len : PySem.W.isFn K (.ref f_Machine_len) = true)
    (l_Machine_len : K.lookup f_Machine_len = some ⟨oc_Machine_len, od_Machine_len, .func (PySem.W.fnOf "__len__" "Machine.__len__" (defArgs s_Machine_len) (defBody s_Machine_len) (defScope s_Machine_len) .none kV_Machine_len dc_Machine_len pm_Machine_len an_Machine_len cd_Machine_len ct_Machine_len), sl_Machine_len⟩) (e_Machine_len : PySem.W.codeIn K cd_Machine_len "Machine.__len__" = true) (k_Machine_len : PySem.W.keepIn K (.ref f_Machine_len) = true)
    {f_Machine_contains : Addr} {oc_Machine_contains kV_Machine_contains dc_Machine_contains pm_Machine_contains cd_Machine_contains ct_Machine_contains : Value} {od_Machine_contains an_Machine_contains : Option Addr} {sl_Machine_contains : Array (Option Value)}
    (a_Machine_contains : PySem.W.findIn K (.ref C_Machine) "__contains__" = some (some (.ref f_Machine_contains))) (i_Machine_contains : PySem.W.isFn K (.ref f_Machine_contains) = true)
    (l_Machine_contains : K.lookup f_Machine_contains = some ⟨oc_Machine_contains, od_Machine_contains, .func (PySem.W.fnOf "__contains__" "Machine.__contains__" (defArgs s_Machine_contains) (defBody s_Machine_contains) (defScope s_Machine_contains) .none kV_Machine_contains dc_Machine_contains pm_Machine_contains an_Machine_contains cd_Machine_contains ct_Machine_contains), sl_Machine_contains⟩) (e_Machine_contains : PySem.W.codeIn K cd_Machine_contains "Machine.__contains__" = true) (k_Machine_contains : PySem.W.keepIn K (.ref f_Machine_contains) = true)
    {f_Machine_eq : Addr} {oc_Machine_eq kV_Machine_eq dc_Machine_eq pm_Machine_eq cd_Machine_eq ct_Machine_eq : Value} {od_Machine_eq an_Machine_eq : Option Addr} {sl_Machine_eq : Array (Option Value)}
    (a_Machine_eq : PySem.W.findIn K (.ref C_Machine) "__eq__" = some (some (.ref f_Machine_eq))) (i_Machine_eq : PySem.W.isFn K (.ref f_Machine_eq) = true)
    (l_Machine_eq : K.lookup f_Machine_eq = some ⟨oc_Machine_eq, od_Machine_eq, .func (PySem.W.fnOf "__eq__" "Machine.__eq__" (defArgs s_Machine_eq) (defBody s_Machine_eq) (defScope s_Machine_eq) .none kV_Machine_eq dc_Machine_eq pm_Machine_eq an_Machine_eq cd_Machine_eq ct_Machine_eq), sl_Machine_eq⟩) (e_Machine_eq : PySem.W.codeIn K cd_Machine_eq "Machine.__eq__" = true) (k_Machine_eq : PySem.W.keepIn K (.ref f_Machine_eq) = true)
    {f_Machine_repr : Addr} {oc_Machine_repr kV_Machine_repr dc_Machine_repr pm_Machine_repr cd_Machine_repr ct_Machine_repr : Value} {od_Machine_repr an_Machine_repr : Option Addr} {sl_Machine_repr : Array (Option Value)}
    (a_Machine_repr : PySem.W.findIn K (.ref C_Machine) "__repr__" = some (some (.ref f_Machine_repr))) (i_Machine_repr : PySem.W.isFn K (.ref f_Machine_repr) = true)
    (l_Machine_repr : K.lookup f_Machine_repr = some ⟨oc_Machine_repr, od_Machine_repr, .func (PySem.W.fnOf "__repr__" "Machine.__repr__" (defArgs s_Machine_repr) (defBody s_Machine_repr) (defScope s_Machine_repr) .none kV_Machine_repr dc_Machine_repr pm_Machine_repr an_Machine_repr cd_Machine_repr ct_Machine_repr), sl_Machine_repr⟩) (e_Machine_repr : PySem.W.codeIn K cd_Machine_repr "Machine.__repr__" = true) (k_Machine_repr : PySem.W.keepIn K (.ref f_Machine_repr) = true)
    {f_Machine_or : Addr} {oc_Machine_or kV_Machine_or dc_Machine_or pm_Machine_or cd_Machine_or ct_Machine_or : Value} {od_Machine_or an_Machine_or : Option Addr} {sl_Machine_or : Array (Option Value)}
    (a_Machine_or : PySem.W.findIn K (.ref C_Machine) "__or__" = some (some (.ref f_Machine_or))) (i_Machine_or : PySem.W.isFn K (.ref f_Machine_or) = true)
    (l_Machine_or : K.lookup f_Machine_or = some ⟨oc_Machine_or, od_Machine_or, .func (PySem.W.fnOf "__or__" "Machine.__or__" (defArgs s_Machine_or) (defBody s_Machine_or) (defScope s_Machine_or) .none kV_Machine_or dc_Machine_or pm_Machine_or an_Machine_or cd_Machine_or ct_Machine_or), sl_Machine_or⟩) (e_Machine_or : PySem.W.codeIn K cd_Machine_or "Machine.__or__" = true) (k_Machine_or : PySem.W.keepIn K (.ref f_Machine_or) = true)
    {f_Machine_sub : Addr} {oc_Machine_sub kV_Machine_sub dc_Machine_sub pm_Machine_sub cd_Machine_sub ct_Machine_sub : Value} {od_Machine_sub an_Machine_sub : Option Addr} {sl_Machine_sub : Array (Option Value)}
    (a_Machine_sub : PySem.W.findIn K (.ref C_Machine) "__sub__" = some (some (.ref f_Machine_sub))) (i_Machine_sub : PySem.W.isFn K (.ref f_Machine_sub) = true)
    (l_Machine_sub : K.lookup f_Machine_sub = some ⟨oc_Machine_sub, od_Machine_sub, .func (PySem.W.fnOf "__sub__" "Machine.__sub__" (defArgs s_Machine_sub) (defBody s_Machine_sub) (defScope s_Machine_sub) .none kV_Machine_sub dc_Machine_sub pm_Machine_sub an_Machine_sub cd_Machine_sub ct_Machine_sub), sl_Machine_sub⟩) (e_Machine_sub : PySem.W.codeIn K cd_Machine_sub "Machine.__sub__" = true) (k_Machine_sub : PySem.W.keepIn K (.ref f_Machine_sub) = true)
    {f_Machine_letters : Addr} {oc_Machine_letters kV_Machine_letters dc_Machine_letters pm_Machine_letters cd_Machine_letters ct_Machine_letters : Value} {od_Machine_letters an_Machine_letters : Option Addr} {sl_Machine_letters : Array (Option Value)}
    {p_Machine_letters : Addr} {rest_Machine_letters : List Value} (a_Machine_letters : PySem.W.findIn K (.ref C_Machine) "letters" = some (some (.ref p_Machine_letters))) (pg_Machine_letters : PySem.W.specialIn K (.ref p_Machine_letters) "__get__" = some (some (.builtin "property.__get__"))) (pt_Machine_letters : PySem.W.takesIn K (.ref p_Machine_letters) = some true) (pr_Machine_letters : PySem.W.recIn K p_Machine_letters "property" = some (.ref f_Machine_letters :: rest_Machine_letters))
    (l_Machine_letters : K.lookup f_Machine_letters = some ⟨oc_Machine_letters, od_Machine_letters, .func (PySem.W.fnOf "letters" "Machine.letters" (defArgs s_Machine_letters) (defBody s_Machine_letters) (defScope s_Machine_letters) .none kV_Machine_letters dc_Machine_letters pm_Machine_letters an_Machine_letters cd_Machine_letters ct_Machine_letters), sl_Machine_letters⟩) (e_Machine_letters : PySem.W.codeIn K cd_Machine_letters "Machine.letters" = true) (k_Machine_letters : PySem.W.keepIn K (.ref f_Machine_letters) = true)
    {C_Desk : Addr} (a_Desk : PySem.W.nsIn K mainGlobals "Desk" = some (some (.ref C_Desk))) (pg_Desk : PySem.W.plainGet K C_Desk Str.empty = true) (hd_Desk : PySem.W.hasDictIn K C_Desk = true) (po_Desk : PySem.W.plainOver K C_Desk = true) (sa_Desk : PySem.W.findIn K (.ref C_Desk) "__setattr__" = some (some (.builtin "object.__setattr__"))) (mk_Desk : PySem.W.makesIn K C_Desk = true) (kc_Desk : PySem.W.keepIn K (.ref C_Desk) = true)
    (ca_Desk : PySem.W.findIn K (.ref C_Desk) "__class__" = some (some (.builtin "object.__class__"))) (cg_Desk : PySem.W.specialIn K (.builtin "object.__class__") "__get__" = some (some (.builtin "getset_descriptor.__get__"))) (ct_Desk : PySem.W.takesIn K (.builtin "object.__class__") = some true) (ne_Desk : PySem.W.findIn K (.ref C_Desk) "__ne__" = some (some (.builtin "object.__ne__"))) (tt_Desk : PySem.W.typeIn K (.ref C_Desk) = some (.type "type")) (cr_Desk : PySem.W.readsIn K C_Desk (.type "type") = true) (ck_Desk : PySem.W.specialIn K (.ref C_Desk) "__getattribute__" = some (some (.builtin "type.__getattribute__")))
    (nf_Desk_one : PySem.W.findIn K (.ref C_Desk) "one" = some none)
    (nf_Desk_other : PySem.W.findIn K (.ref C_Desk) "other" = some none)
    (nf_Desk_own_past : PySem.W.findIn K (.ref C_Desk) "own_past" = some none)
    {f_Desk_init : Addr} {oc_Desk_init kV_Desk_init dc_Desk_init pm_Desk_init cd_Desk_init ct_Desk_init : Value} {od_Desk_init an_Desk_init : Option Addr} {sl_Desk_init : Array (Option Value)}
    (a_Desk_init : PySem.W.findIn K (.ref C_Desk) "__init__" = some (some (.ref f_Desk_init))) (i_Desk_init : PySem.W.isFn K (.ref f_Desk_init) = true)
    (l_Desk_init : K.lookup f_Desk_init = some ⟨oc_Desk_init, od_Desk_init, .func (PySem.W.fnOf "__init__" "Desk.__init__" (defArgs s_Desk_init) (defBody s_Desk_init) (defScope s_Desk_init) .none kV_Desk_init dc_Desk_init pm_Desk_init an_Desk_init cd_Desk_init ct_Desk_init), sl_Desk_init⟩) (e_Desk_init : PySem.W.codeIn K cd_Desk_init "Desk.__init__" = true) (k_Desk_init : PySem.W.keepIn K (.ref f_Desk_init) = true)
    {f_Desk_put : Addr} {oc_Desk_put kV_Desk_put dc_Desk_put pm_Desk_put cd_Desk_put ct_Desk_put : Value} {od_Desk_put an_Desk_put : Option Addr} {sl_Desk_put : Array (Option Value)}
    (a_Desk_put : PySem.W.findIn K (.ref C_Desk) "put" = some (some (.ref f_Desk_put))) (i_Desk_put : PySem.W.isFn K (.ref f_Desk_put) = true)
    (l_Desk_put : K.lookup f_Desk_put = some ⟨oc_Desk_put, od_Desk_put, .func (PySem.W.fnOf "put" "Desk.put" (defArgs s_Desk_put) (defBody s_Desk_put) (defScope s_Desk_put) .none kV_Desk_put dc_Desk_put pm_Desk_put an_Desk_put cd_Desk_put ct_Desk_put), sl_Desk_put⟩) (e_Desk_put : PySem.W.codeIn K cd_Desk_put "Desk.put" = true) (k_Desk_put : PySem.W.keepIn K (.ref f_Desk_put) = true)
    {f_Desk_named : Addr} {oc_Desk_named kV_Desk_named dc_Desk_named pm_Desk_named cd_Desk_named ct_Desk_named : Value} {od_Desk_named an_Desk_named : Option Addr} {sl_Desk_named : Array (Option Value)}
    (a_Desk_named : PySem.W.findIn K (.ref C_Desk) "named" = some (some (.ref f_Desk_named))) (i_Desk_named : PySem.W.isFn K (.ref f_Desk_named) = true)
    (l_Desk_named : K.lookup f_Desk_named = some ⟨oc_Desk_named, od_Desk_named, .func (PySem.W.fnOf "named" "Desk.named" (defArgs s_Desk_named) (defBody s_Desk_named) (defScope s_Desk_named) .none kV_Desk_named dc_Desk_named pm_Desk_named an_Desk_named cd_Desk_named ct_Desk_named), sl_Desk_named⟩) (e_Desk_named : PySem.W.codeIn K cd_Desk_named "Desk.named" = true) (k_Desk_named : PySem.W.keepIn K (.ref f_Desk_named) = true)
    {f_Desk_put_named : Addr} {oc_Desk_put_named kV_Desk_put_named dc_Desk_put_named pm_Desk_put_named cd_Desk_put_named ct_Desk_put_named : Value} {od_Desk_put_named an_Desk_put_named : Option Addr} {sl_Desk_put_named : Array (Option Value)}
    (a_Desk_put_named : PySem.W.findIn K (.ref C_Desk) "put_named" = some (some (.ref f_Desk_put_named))) (i_Desk_put_named : PySem.W.isFn K (.ref f_Desk_put_named) = true)
    (l_Desk_put_named : K.lookup f_Desk_put_named = some ⟨oc_Desk_put_named, od_Desk_put_named, .func (PySem.W.fnOf "put_named" "Desk.put_named" (defArgs s_Desk_put_named) (defBody s_Desk_put_named) (defScope s_Desk_put_named) .none kV_Desk_put_named dc_Desk_put_named pm_Desk_put_named an_Desk_put_named cd_Desk_put_named ct_Desk_put_named), sl_Desk_put_named⟩) (e_Desk_put_named : PySem.W.codeIn K cd_Desk_put_named "Desk.put_named" = true) (k_Desk_put_named : PySem.W.keepIn K (.ref f_Desk_put_named) = true)
    {f_Desk_turn : Addr} {oc_Desk_turn kV_Desk_turn dc_Desk_turn pm_Desk_turn cd_Desk_turn ct_Desk_turn : Value} {od_Desk_turn an_Desk_turn : Option Addr} {sl_Desk_turn : Array (Option Value)}
    (a_Desk_turn : PySem.W.findIn K (.ref C_Desk) "turn" = some (some (.ref f_Desk_turn))) (i_Desk_turn : PySem.W.isFn K (.ref f_Desk_turn) = true)
    (l_Desk_turn : K.lookup f_Desk_turn = some ⟨oc_Desk_turn, od_Desk_turn, .func (PySem.W.fnOf "turn" "Desk.turn" (defArgs s_Desk_turn) (defBody s_Desk_turn) (defScope s_Desk_turn) .none kV_Desk_turn dc_Desk_turn pm_Desk_turn an_Desk_turn cd_Desk_turn ct_Desk_turn), sl_Desk_turn⟩) (e_Desk_turn : PySem.W.codeIn K cd_Desk_turn "Desk.turn" = true) (k_Desk_turn : PySem.W.keepIn K (.ref f_Desk_turn) = true)
    {f_Desk_lead : Addr} {oc_Desk_lead kV_Desk_lead dc_Desk_lead pm_Desk_lead cd_Desk_lead ct_Desk_lead : Value} {od_Desk_lead an_Desk_lead : Option Addr} {sl_Desk_lead : Array (Option Value)}
    (a_Desk_lead : PySem.W.findIn K (.ref C_Desk) "lead" = some (some (.ref f_Desk_lead))) (i_Desk_lead : PySem.W.isFn K (.ref f_Desk_lead) = true)
    (l_Desk_lead : K.lookup f_Desk_lead = some ⟨oc_Desk_lead, od_Desk_lead, .func (PySem.W.fnOf "lead" "Desk.lead" (defArgs s_Desk_lead) (defBody s_Desk_lead) (defScope s_Desk_lead) .none kV_Desk_lead dc_Desk_lead pm_Desk_lead an_Desk_lead cd_Desk_lead ct_Desk_lead), sl_Desk_lead⟩) (e_Desk_lead : PySem.W.codeIn K cd_Desk_lead "Desk.lead" = true) (k_Desk_lead : PySem.W.keepIn K (.ref f_Desk_lead) = true)
    {f_Desk_swap : Addr} {oc_Desk_swap kV_Desk_swap dc_Desk_swap pm_Desk_swap cd_Desk_swap ct_Desk_swap : Value} {od_Desk_swap an_Desk_swap : Option Addr} {sl_Desk_swap : Array (Option Value)}
    (a_Desk_swap : PySem.W.findIn K (.ref C_Desk) "swap" = some (some (.ref f_Desk_swap))) (i_Desk_swap : PySem.W.isFn K (.ref f_Desk_swap) = true)
    (l_Desk_swap : K.lookup f_Desk_swap = some ⟨oc_Desk_swap, od_Desk_swap, .func (PySem.W.fnOf "swap" "Desk.swap" (defArgs s_Desk_swap) (defBody s_Desk_swap) (defScope s_Desk_swap) .none kV_Desk_swap dc_Desk_swap pm_Desk_swap an_Desk_swap cd_Desk_swap ct_Desk_swap), sl_Desk_swap⟩) (e_Desk_swap : PySem.W.codeIn K cd_Desk_swap "Desk.swap" = true) (k_Desk_swap : PySem.W.keepIn K (.ref f_Desk_swap) = true)
    {f_Desk_undo : Addr} {oc_Desk_undo kV_Desk_undo dc_Desk_undo pm_Desk_undo cd_Desk_undo ct_Desk_undo : Value} {od_Desk_undo an_Desk_undo : Option Addr} {sl_Desk_undo : Array (Option Value)}
    (a_Desk_undo : PySem.W.findIn K (.ref C_Desk) "undo" = some (some (.ref f_Desk_undo))) (i_Desk_undo : PySem.W.isFn K (.ref f_Desk_undo) = true)
    (l_Desk_undo : K.lookup f_Desk_undo = some ⟨oc_Desk_undo, od_Desk_undo, .func (PySem.W.fnOf "undo" "Desk.undo" (defArgs s_Desk_undo) (defBody s_Desk_undo) (defScope s_Desk_undo) .none kV_Desk_undo dc_Desk_undo pm_Desk_undo an_Desk_undo cd_Desk_undo ct_Desk_undo), sl_Desk_undo⟩) (e_Desk_undo : PySem.W.codeIn K cd_Desk_undo "Desk.undo" = true) (k_Desk_undo : PySem.W.keepIn K (.ref f_Desk_undo) = true)
    {f_Desk_iadd : Addr} {oc_Desk_iadd kV_Desk_iadd dc_Desk_iadd pm_Desk_iadd cd_Desk_iadd ct_Desk_iadd : Value} {od_Desk_iadd an_Desk_iadd : Option Addr} {sl_Desk_iadd : Array (Option Value)}
    (a_Desk_iadd : PySem.W.findIn K (.ref C_Desk) "__iadd__" = some (some (.ref f_Desk_iadd))) (i_Desk_iadd : PySem.W.isFn K (.ref f_Desk_iadd) = true)
    (l_Desk_iadd : K.lookup f_Desk_iadd = some ⟨oc_Desk_iadd, od_Desk_iadd, .func (PySem.W.fnOf "__iadd__" "Desk.__iadd__" (defArgs s_Desk_iadd) (defBody s_Desk_iadd) (defScope s_Desk_iadd) .none kV_Desk_iadd dc_Desk_iadd pm_Desk_iadd an_Desk_iadd cd_Desk_iadd ct_Desk_iadd), sl_Desk_iadd⟩) (e_Desk_iadd : PySem.W.codeIn K cd_Desk_iadd "Desk.__iadd__" = true) (k_Desk_iadd : PySem.W.keepIn K (.ref f_Desk_iadd) = true)
    {f_Desk_isub : Addr} {oc_Desk_isub kV_Desk_isub dc_Desk_isub pm_Desk_isub cd_Desk_isub ct_Desk_isub : Value} {od_Desk_isub an_Desk_isub : Option Addr} {sl_Desk_isub : Array (Option Value)}
    (a_Desk_isub : PySem.W.findIn K (.ref C_Desk) "__isub__" = some (some (.ref f_Desk_isub))) (i_Desk_isub : PySem.W.isFn K (.ref f_Desk_isub) = true)
    (l_Desk_isub : K.lookup f_Desk_isub = some ⟨oc_Desk_isub, od_Desk_isub, .func (PySem.W.fnOf "__isub__" "Desk.__isub__" (defArgs s_Desk_isub) (defBody s_Desk_isub) (defScope s_Desk_isub) .none kV_Desk_isub dc_Desk_isub pm_Desk_isub an_Desk_isub cd_Desk_isub ct_Desk_isub), sl_Desk_isub⟩) (e_Desk_isub : PySem.W.codeIn K cd_Desk_isub "Desk.__isub__" = true) (k_Desk_isub : PySem.W.keepIn K (.ref f_Desk_isub) = true)
    {f_Desk_getitem : Addr} {oc_Desk_getitem kV_Desk_getitem dc_Desk_getitem pm_Desk_getitem cd_Desk_getitem ct_Desk_getitem : Value} {od_Desk_getitem an_Desk_getitem : Option Addr} {sl_Desk_getitem : Array (Option Value)}
    (a_Desk_getitem : PySem.W.findIn K (.ref C_Desk) "__getitem__" = some (some (.ref f_Desk_getitem))) (i_Desk_getitem : PySem.W.isFn K (.ref f_Desk_getitem) = true)
    (l_Desk_getitem : K.lookup f_Desk_getitem = some ⟨oc_Desk_getitem, od_Desk_getitem, .func (PySem.W.fnOf "__getitem__" "Desk.__getitem__" (defArgs s_Desk_getitem) (defBody s_Desk_getitem) (defScope s_Desk_getitem) .none kV_Desk_getitem dc_Desk_getitem pm_Desk_getitem an_Desk_getitem cd_Desk_getitem ct_Desk_getitem), sl_Desk_getitem⟩) (e_Desk_getitem : PySem.W.codeIn K cd_Desk_getitem "Desk.__getitem__" = true) (k_Desk_getitem : PySem.W.keepIn K (.ref f_Desk_getitem) = true)
    {f_Desk_contains : Addr} {oc_Desk_contains kV_Desk_contains dc_Desk_contains pm_Desk_contains cd_Desk_contains ct_Desk_contains : Value} {od_Desk_contains an_Desk_contains : Option Addr} {sl_Desk_contains : Array (Option Value)}
    (a_Desk_contains : PySem.W.findIn K (.ref C_Desk) "__contains__" = some (some (.ref f_Desk_contains))) (i_Desk_contains : PySem.W.isFn K (.ref f_Desk_contains) = true)
    (l_Desk_contains : K.lookup f_Desk_contains = some ⟨oc_Desk_contains, od_Desk_contains, .func (PySem.W.fnOf "__contains__" "Desk.__contains__" (defArgs s_Desk_contains) (defBody s_Desk_contains) (defScope s_Desk_contains) .none kV_Desk_contains dc_Desk_contains pm_Desk_contains an_Desk_contains cd_Desk_contains ct_Desk_contains), sl_Desk_contains⟩) (e_Desk_contains : PySem.W.codeIn K cd_Desk_contains "Desk.__contains__" = true) (k_Desk_contains : PySem.W.keepIn K (.ref f_Desk_contains) = true)
    {f_Desk_len : Addr} {oc_Desk_len kV_Desk_len dc_Desk_len pm_Desk_len cd_Desk_len ct_Desk_len : Value} {od_Desk_len an_Desk_len : Option Addr} {sl_Desk_len : Array (Option Value)}
    (a_Desk_len : PySem.W.findIn K (.ref C_Desk) "__len__" = some (some (.ref f_Desk_len))) (i_Desk_len : PySem.W.isFn K (.ref f_Desk_len) = true)
    (l_Desk_len : K.lookup f_Desk_len = some ⟨oc_Desk_len, od_Desk_len, .func (PySem.W.fnOf "__len__" "Desk.__len__" (defArgs s_Desk_len) (defBody s_Desk_len) (defScope s_Desk_len) .none kV_Desk_len dc_Desk_len pm_Desk_len an_Desk_len cd_Desk_len ct_Desk_len), sl_Desk_len⟩) (e_Desk_len : PySem.W.codeIn K cd_Desk_len "Desk.__len__" = true) (k_Desk_len : PySem.W.keepIn K (.ref f_Desk_len) = true)
    {C_InvalidText fi_InvalidText pr_InvalidText N_InvalidText cda_InvalidText cc_InvalidText : Addr} {nm_InvalidText q_InvalidText : Str} {bs_InvalidText : List Value} {sn_InvalidText : List Str} {sub_InvalidText : List Value} {ab_InvalidText : Bool} {col_InvalidText : Option Bool} {dd_InvalidText : Option Addr} {k0_InvalidText k1_InvalidText k2_InvalidText k3_InvalidText k5_InvalidText : Option Value} {kV_InvalidText doc_InvalidText pm_InvalidText ct_InvalidText oc_InvalidText ccl_InvalidText cl_InvalidText : Value} {an_InvalidText od_InvalidText cdd_InvalidText cld_InvalidText : Option Addr} {osl_InvalidText ccs_InvalidText csl_InvalidText : Array (Option Value)} {vs_InvalidText : Array Value} {file_InvalidText : Str} {tf_InvalidText : Tok}
    (a_InvalidText : PySem.W.nsIn K mainGlobals "InvalidText" = some (some (.ref C_InvalidText))) (lc_InvalidText : K.lookup C_InvalidText = some (excClassObj nm_InvalidText q_InvalidText C_InvalidText N_InvalidText bs_InvalidText (.ref pr_InvalidText :: [.type "ValueError", .type "Exception", .type "BaseException", .type "object"]) true sn_InvalidText sub_InvalidText ab_InvalidText col_InvalidText dd_InvalidText k0_InvalidText k1_InvalidText k2_InvalidText k3_InvalidText k5_InvalidText "ValueError.__new__"))
    (ii_InvalidText : PySem.W.findIn K (.ref C_InvalidText) "__init__" = some (some (.ref fi_InvalidText))) (li_InvalidText : K.lookup fi_InvalidText = some ⟨oc_InvalidText, od_InvalidText, .func (PySem.W.ksFn "__init__" "InvalidText.__init__" (defArgs s_InvalidText_init) (defBody s_InvalidText_init) (defScope s_InvalidText_init) .none kV_InvalidText doc_InvalidText pm_InvalidText an_InvalidText (.ref cda_InvalidText) ct_InvalidText cc_InvalidText), osl_InvalidText⟩) (ei_InvalidText : PySem.W.codeIn K (.ref cda_InvalidText) "InvalidText.__init__" = true)
    (lk_InvalidText : K.lookup cda_InvalidText = some ⟨ccl_InvalidText, cdd_InvalidText, .fields vs_InvalidText, ccs_InvalidText⟩) (v2_InvalidText : vs_InvalidText[2]? = some (.str file_InvalidText tf_InvalidText)) (fl_InvalidText : ((PW.main.file : Str) == file_InvalidText) = true) (lcc_InvalidText : K.lookup cc_InvalidText = some ⟨cl_InvalidText, cld_InvalidText, .cell (some (.ref C_InvalidText)), csl_InvalidText⟩)
    (su_InvalidText : PySem.W.ks_superIn K C_InvalidText C_InvalidText "__init__" = some (some (.builtin "ValueError.__init__"))) (se_InvalidText : PySem.W.mroIn K C_InvalidText (.ref C_InvalidText) = some true) (sb_InvalidText : PySem.W.subIn K (.ref C_InvalidText) (.type "ValueError") = some true) (op_InvalidText : PySem.W.nsIn K cStatics "thirdparty.any" = some none) (tp_InvalidText : (PW.main.scope.names.lookup ("super" : Str)).isSome = false)
    (sa_InvalidText : PySem.W.findIn K (.ref C_InvalidText) "__setattr__" = some (some (.builtin "object.__setattr__"))) (ti_InvalidText : PySem.W.typeIn K (.ref fi_InvalidText) = some (.type "function")) (kc_InvalidText : PySem.W.keepIn K (.ref C_InvalidText) = true) (ex_InvalidText : PySem.W.subIn K (.ref C_InvalidText) (.type "BaseException") = some true) (ty_InvalidText : PySem.W.typeIn K (.ref C_InvalidText) = some (.type "type"))
    (ga_InvalidText : PySem.W.findIn K (.ref C_InvalidText) "__getattribute__" = some (some (.builtin "BaseException.__getattribute__"))) (gg_InvalidText : PySem.W.findIn K (.ref C_InvalidText) "__getattr__" = some none) (hdc_InvalidText : PySem.W.hasDictIn K C_InvalidText = true) (ss_InvalidText : PySem.W.subIn K (.ref C_InvalidText) (.ref C_InvalidText) = some true)
    (nf_InvalidText_value : PySem.W.findIn K (.ref C_InvalidText) "value" = some none)
    {C_InvalidLetter fi_InvalidLetter pr_InvalidLetter N_InvalidLetter cda_InvalidLetter cc_InvalidLetter : Addr} {nm_InvalidLetter q_InvalidLetter : Str} {bs_InvalidLetter : List Value} {sn_InvalidLetter : List Str} {sub_InvalidLetter : List Value} {ab_InvalidLetter : Bool} {col_InvalidLetter : Option Bool} {dd_InvalidLetter : Option Addr} {k0_InvalidLetter k1_InvalidLetter k2_InvalidLetter k3_InvalidLetter k5_InvalidLetter : Option Value} {kV_InvalidLetter doc_InvalidLetter pm_InvalidLetter ct_InvalidLetter oc_InvalidLetter ccl_InvalidLetter cl_InvalidLetter : Value} {an_InvalidLetter od_InvalidLetter cdd_InvalidLetter cld_InvalidLetter : Option Addr} {osl_InvalidLetter ccs_InvalidLetter csl_InvalidLetter : Array (Option Value)} {vs_InvalidLetter : Array Value} {file_InvalidLetter : Str} {tf_InvalidLetter : Tok}
    (a_InvalidLetter : PySem.W.nsIn K mainGlobals "InvalidLetter" = some (some (.ref C_InvalidLetter))) (lc_InvalidLetter : K.lookup C_InvalidLetter = some (excClassObj nm_InvalidLetter q_InvalidLetter C_InvalidLetter N_InvalidLetter bs_InvalidLetter (.ref pr_InvalidLetter :: [.type "ValueError", .type "Exception", .type "BaseException", .type "object"]) true sn_InvalidLetter sub_InvalidLetter ab_InvalidLetter col_InvalidLetter dd_InvalidLetter k0_InvalidLetter k1_InvalidLetter k2_InvalidLetter k3_InvalidLetter k5_InvalidLetter "ValueError.__new__"))
    (ii_InvalidLetter : PySem.W.findIn K (.ref C_InvalidLetter) "__init__" = some (some (.ref fi_InvalidLetter))) (li_InvalidLetter : K.lookup fi_InvalidLetter = some ⟨oc_InvalidLetter, od_InvalidLetter, .func (PySem.W.ksFn "__init__" "InvalidLetter.__init__" (defArgs s_InvalidLetter_init) (defBody s_InvalidLetter_init) (defScope s_InvalidLetter_init) .none kV_InvalidLetter doc_InvalidLetter pm_InvalidLetter an_InvalidLetter (.ref cda_InvalidLetter) ct_InvalidLetter cc_InvalidLetter), osl_InvalidLetter⟩) (ei_InvalidLetter : PySem.W.codeIn K (.ref cda_InvalidLetter) "InvalidLetter.__init__" = true)
    (lk_InvalidLetter : K.lookup cda_InvalidLetter = some ⟨ccl_InvalidLetter, cdd_InvalidLetter, .fields vs_InvalidLetter, ccs_InvalidLetter⟩) (v2_InvalidLetter : vs_InvalidLetter[2]? = some (.str file_InvalidLetter tf_InvalidLetter)) (fl_InvalidLetter : ((PW.main.file : Str) == file_InvalidLetter) = true) (lcc_InvalidLetter : K.lookup cc_InvalidLetter = some ⟨cl_InvalidLetter, cld_InvalidLetter, .cell (some (.ref C_InvalidLetter)), csl_InvalidLetter⟩)
    (su_InvalidLetter : PySem.W.ks_superIn K C_InvalidLetter C_InvalidLetter "__init__" = some (some (.builtin "ValueError.__init__"))) (se_InvalidLetter : PySem.W.mroIn K C_InvalidLetter (.ref C_InvalidLetter) = some true) (sb_InvalidLetter : PySem.W.subIn K (.ref C_InvalidLetter) (.type "ValueError") = some true) (op_InvalidLetter : PySem.W.nsIn K cStatics "thirdparty.any" = some none) (tp_InvalidLetter : (PW.main.scope.names.lookup ("super" : Str)).isSome = false)
    (sa_InvalidLetter : PySem.W.findIn K (.ref C_InvalidLetter) "__setattr__" = some (some (.builtin "object.__setattr__"))) (ti_InvalidLetter : PySem.W.typeIn K (.ref fi_InvalidLetter) = some (.type "function")) (kc_InvalidLetter : PySem.W.keepIn K (.ref C_InvalidLetter) = true) (ex_InvalidLetter : PySem.W.subIn K (.ref C_InvalidLetter) (.type "BaseException") = some true) (ty_InvalidLetter : PySem.W.typeIn K (.ref C_InvalidLetter) = some (.type "type"))
    (ga_InvalidLetter : PySem.W.findIn K (.ref C_InvalidLetter) "__getattribute__" = some (some (.builtin "BaseException.__getattribute__"))) (gg_InvalidLetter : PySem.W.findIn K (.ref C_InvalidLetter) "__getattr__" = some none) (hdc_InvalidLetter : PySem.W.hasDictIn K C_InvalidLetter = true) (ss_InvalidLetter : PySem.W.subIn K (.ref C_InvalidLetter) (.ref C_InvalidLetter) = some true)
    (nf_InvalidLetter_value : PySem.W.findIn K (.ref C_InvalidLetter) "value" = some none)
    {C_InvalidPlace fi_InvalidPlace pr_InvalidPlace N_InvalidPlace cda_InvalidPlace cc_InvalidPlace : Addr} {nm_InvalidPlace q_InvalidPlace : Str} {bs_InvalidPlace : List Value} {sn_InvalidPlace : List Str} {sub_InvalidPlace : List Value} {ab_InvalidPlace : Bool} {col_InvalidPlace : Option Bool} {dd_InvalidPlace : Option Addr} {k0_InvalidPlace k1_InvalidPlace k2_InvalidPlace k3_InvalidPlace k5_InvalidPlace : Option Value} {kV_InvalidPlace doc_InvalidPlace pm_InvalidPlace ct_InvalidPlace oc_InvalidPlace ccl_InvalidPlace cl_InvalidPlace : Value} {an_InvalidPlace od_InvalidPlace cdd_InvalidPlace cld_InvalidPlace : Option Addr} {osl_InvalidPlace ccs_InvalidPlace csl_InvalidPlace : Array (Option Value)} {vs_InvalidPlace : Array Value} {file_InvalidPlace : Str} {tf_InvalidPlace : Tok}
    (a_InvalidPlace : PySem.W.nsIn K mainGlobals "InvalidPlace" = some (some (.ref C_InvalidPlace))) (lc_InvalidPlace : K.lookup C_InvalidPlace = some (excClassObj nm_InvalidPlace q_InvalidPlace C_InvalidPlace N_InvalidPlace bs_InvalidPlace (.ref pr_InvalidPlace :: [.type "ValueError", .type "Exception", .type "BaseException", .type "object"]) true sn_InvalidPlace sub_InvalidPlace ab_InvalidPlace col_InvalidPlace dd_InvalidPlace k0_InvalidPlace k1_InvalidPlace k2_InvalidPlace k3_InvalidPlace k5_InvalidPlace "ValueError.__new__"))
    (ii_InvalidPlace : PySem.W.findIn K (.ref C_InvalidPlace) "__init__" = some (some (.ref fi_InvalidPlace))) (li_InvalidPlace : K.lookup fi_InvalidPlace = some ⟨oc_InvalidPlace, od_InvalidPlace, .func (PySem.W.ksFn "__init__" "InvalidPlace.__init__" (defArgs s_InvalidPlace_init) (defBody s_InvalidPlace_init) (defScope s_InvalidPlace_init) .none kV_InvalidPlace doc_InvalidPlace pm_InvalidPlace an_InvalidPlace (.ref cda_InvalidPlace) ct_InvalidPlace cc_InvalidPlace), osl_InvalidPlace⟩) (ei_InvalidPlace : PySem.W.codeIn K (.ref cda_InvalidPlace) "InvalidPlace.__init__" = true)
    (lk_InvalidPlace : K.lookup cda_InvalidPlace = some ⟨ccl_InvalidPlace, cdd_InvalidPlace, .fields vs_InvalidPlace, ccs_InvalidPlace⟩) (v2_InvalidPlace : vs_InvalidPlace[2]? = some (.str file_InvalidPlace tf_InvalidPlace)) (fl_InvalidPlace : ((PW.main.file : Str) == file_InvalidPlace) = true) (lcc_InvalidPlace : K.lookup cc_InvalidPlace = some ⟨cl_InvalidPlace, cld_InvalidPlace, .cell (some (.ref C_InvalidPlace)), csl_InvalidPlace⟩)
    (su_InvalidPlace : PySem.W.ks_superIn K C_InvalidPlace C_InvalidPlace "__init__" = some (some (.builtin "ValueError.__init__"))) (se_InvalidPlace : PySem.W.mroIn K C_InvalidPlace (.ref C_InvalidPlace) = some true) (sb_InvalidPlace : PySem.W.subIn K (.ref C_InvalidPlace) (.type "ValueError") = some true) (op_InvalidPlace : PySem.W.nsIn K cStatics "thirdparty.any" = some none) (tp_InvalidPlace : (PW.main.scope.names.lookup ("super" : Str)).isSome = false)
    (sa_InvalidPlace : PySem.W.findIn K (.ref C_InvalidPlace) "__setattr__" = some (some (.builtin "object.__setattr__"))) (ti_InvalidPlace : PySem.W.typeIn K (.ref fi_InvalidPlace) = some (.type "function")) (kc_InvalidPlace : PySem.W.keepIn K (.ref C_InvalidPlace) = true) (ex_InvalidPlace : PySem.W.subIn K (.ref C_InvalidPlace) (.type "BaseException") = some true) (ty_InvalidPlace : PySem.W.typeIn K (.ref C_InvalidPlace) = some (.type "type"))
    (ga_InvalidPlace : PySem.W.findIn K (.ref C_InvalidPlace) "__getattribute__" = some (some (.builtin "BaseException.__getattribute__"))) (gg_InvalidPlace : PySem.W.findIn K (.ref C_InvalidPlace) "__getattr__" = some none) (hdc_InvalidPlace : PySem.W.hasDictIn K C_InvalidPlace = true) (ss_InvalidPlace : PySem.W.subIn K (.ref C_InvalidPlace) (.ref C_InvalidPlace) = some true)
    (nf_InvalidPlace_value : PySem.W.findIn K (.ref C_InvalidPlace) "value" = some none)
    {C_InvalidMachine fi_InvalidMachine pr_InvalidMachine N_InvalidMachine cda_InvalidMachine cc_InvalidMachine : Addr} {nm_InvalidMachine q_InvalidMachine : Str} {bs_InvalidMachine : List Value} {sn_InvalidMachine : List Str} {sub_InvalidMachine : List Value} {ab_InvalidMachine : Bool} {col_InvalidMachine : Option Bool} {dd_InvalidMachine : Option Addr} {k0_InvalidMachine k1_InvalidMachine k2_InvalidMachine k3_InvalidMachine k5_InvalidMachine : Option Value} {kV_InvalidMachine doc_InvalidMachine pm_InvalidMachine ct_InvalidMachine oc_InvalidMachine ccl_InvalidMachine cl_InvalidMachine : Value} {an_InvalidMachine od_InvalidMachine cdd_InvalidMachine cld_InvalidMachine : Option Addr} {osl_InvalidMachine ccs_InvalidMachine csl_InvalidMachine : Array (Option Value)} {vs_InvalidMachine : Array Value} {file_InvalidMachine : Str} {tf_InvalidMachine : Tok}
    (a_InvalidMachine : PySem.W.nsIn K mainGlobals "InvalidMachine" = some (some (.ref C_InvalidMachine))) (lc_InvalidMachine : K.lookup C_InvalidMachine = some (excClassObj nm_InvalidMachine q_InvalidMachine C_InvalidMachine N_InvalidMachine bs_InvalidMachine (.ref pr_InvalidMachine :: [.type "ValueError", .type "Exception", .type "BaseException", .type "object"]) true sn_InvalidMachine sub_InvalidMachine ab_InvalidMachine col_InvalidMachine dd_InvalidMachine k0_InvalidMachine k1_InvalidMachine k2_InvalidMachine k3_InvalidMachine k5_InvalidMachine "ValueError.__new__"))
    (ii_InvalidMachine : PySem.W.findIn K (.ref C_InvalidMachine) "__init__" = some (some (.ref fi_InvalidMachine))) (li_InvalidMachine : K.lookup fi_InvalidMachine = some ⟨oc_InvalidMachine, od_InvalidMachine, .func (PySem.W.ksFn "__init__" "InvalidMachine.__init__" (defArgs s_InvalidMachine_init) (defBody s_InvalidMachine_init) (defScope s_InvalidMachine_init) .none kV_InvalidMachine doc_InvalidMachine pm_InvalidMachine an_InvalidMachine (.ref cda_InvalidMachine) ct_InvalidMachine cc_InvalidMachine), osl_InvalidMachine⟩) (ei_InvalidMachine : PySem.W.codeIn K (.ref cda_InvalidMachine) "InvalidMachine.__init__" = true)
    (lk_InvalidMachine : K.lookup cda_InvalidMachine = some ⟨ccl_InvalidMachine, cdd_InvalidMachine, .fields vs_InvalidMachine, ccs_InvalidMachine⟩) (v2_InvalidMachine : vs_InvalidMachine[2]? = some (.str file_InvalidMachine tf_InvalidMachine)) (fl_InvalidMachine : ((PW.main.file : Str) == file_InvalidMachine) = true) (lcc_InvalidMachine : K.lookup cc_InvalidMachine = some ⟨cl_InvalidMachine, cld_InvalidMachine, .cell (some (.ref C_InvalidMachine)), csl_InvalidMachine⟩)
    (su_InvalidMachine : PySem.W.ks_superIn K C_InvalidMachine C_InvalidMachine "__init__" = some (some (.builtin "ValueError.__init__"))) (se_InvalidMachine : PySem.W.mroIn K C_InvalidMachine (.ref C_InvalidMachine) = some true) (sb_InvalidMachine : PySem.W.subIn K (.ref C_InvalidMachine) (.type "ValueError") = some true) (op_InvalidMachine : PySem.W.nsIn K cStatics "thirdparty.any" = some none) (tp_InvalidMachine : (PW.main.scope.names.lookup ("super" : Str)).isSome = false)
    (sa_InvalidMachine : PySem.W.findIn K (.ref C_InvalidMachine) "__setattr__" = some (some (.builtin "object.__setattr__"))) (ti_InvalidMachine : PySem.W.typeIn K (.ref fi_InvalidMachine) = some (.type "function")) (kc_InvalidMachine : PySem.W.keepIn K (.ref C_InvalidMachine) = true) (ex_InvalidMachine : PySem.W.subIn K (.ref C_InvalidMachine) (.type "BaseException") = some true) (ty_InvalidMachine : PySem.W.typeIn K (.ref C_InvalidMachine) = some (.type "type"))
    (ga_InvalidMachine : PySem.W.findIn K (.ref C_InvalidMachine) "__getattribute__" = some (some (.builtin "BaseException.__getattribute__"))) (gg_InvalidMachine : PySem.W.findIn K (.ref C_InvalidMachine) "__getattr__" = some none) (hdc_InvalidMachine : PySem.W.hasDictIn K C_InvalidMachine = true) (ss_InvalidMachine : PySem.W.subIn K (.ref C_InvalidMachine) (.ref C_InvalidMachine) = some true)
    (nf_InvalidMachine_value : PySem.W.findIn K (.ref C_InvalidMachine) "value" = some none)
    {C_InvalidCommand fi_InvalidCommand pr_InvalidCommand N_InvalidCommand cda_InvalidCommand cc_InvalidCommand : Addr} {nm_InvalidCommand q_InvalidCommand : Str} {bs_InvalidCommand : List Value} {sn_InvalidCommand : List Str} {sub_InvalidCommand : List Value} {ab_InvalidCommand : Bool} {col_InvalidCommand : Option Bool} {dd_InvalidCommand : Option Addr} {k0_InvalidCommand k1_InvalidCommand k2_InvalidCommand k3_InvalidCommand k5_InvalidCommand : Option Value} {kV_InvalidCommand doc_InvalidCommand pm_InvalidCommand ct_InvalidCommand oc_InvalidCommand ccl_InvalidCommand cl_InvalidCommand : Value} {an_InvalidCommand od_InvalidCommand cdd_InvalidCommand cld_InvalidCommand : Option Addr} {osl_InvalidCommand ccs_InvalidCommand csl_InvalidCommand : Array (Option Value)} {vs_InvalidCommand : Array Value} {file_InvalidCommand : Str} {tf_InvalidCommand : Tok}
    (a_InvalidCommand : PySem.W.nsIn K mainGlobals "InvalidCommand" = some (some (.ref C_InvalidCommand))) (lc_InvalidCommand : K.lookup C_InvalidCommand = some (excClassObj nm_InvalidCommand q_InvalidCommand C_InvalidCommand N_InvalidCommand bs_InvalidCommand (.ref pr_InvalidCommand :: [.type "ValueError", .type "Exception", .type "BaseException", .type "object"]) true sn_InvalidCommand sub_InvalidCommand ab_InvalidCommand col_InvalidCommand dd_InvalidCommand k0_InvalidCommand k1_InvalidCommand k2_InvalidCommand k3_InvalidCommand k5_InvalidCommand "ValueError.__new__"))
    (ii_InvalidCommand : PySem.W.findIn K (.ref C_InvalidCommand) "__init__" = some (some (.ref fi_InvalidCommand))) (li_InvalidCommand : K.lookup fi_InvalidCommand = some ⟨oc_InvalidCommand, od_InvalidCommand, .func (PySem.W.ksFn "__init__" "InvalidCommand.__init__" (defArgs s_InvalidCommand_init) (defBody s_InvalidCommand_init) (defScope s_InvalidCommand_init) .none kV_InvalidCommand doc_InvalidCommand pm_InvalidCommand an_InvalidCommand (.ref cda_InvalidCommand) ct_InvalidCommand cc_InvalidCommand), osl_InvalidCommand⟩) (ei_InvalidCommand : PySem.W.codeIn K (.ref cda_InvalidCommand) "InvalidCommand.__init__" = true)
    (lk_InvalidCommand : K.lookup cda_InvalidCommand = some ⟨ccl_InvalidCommand, cdd_InvalidCommand, .fields vs_InvalidCommand, ccs_InvalidCommand⟩) (v2_InvalidCommand : vs_InvalidCommand[2]? = some (.str file_InvalidCommand tf_InvalidCommand)) (fl_InvalidCommand : ((PW.main.file : Str) == file_InvalidCommand) = true) (lcc_InvalidCommand : K.lookup cc_InvalidCommand = some ⟨cl_InvalidCommand, cld_InvalidCommand, .cell (some (.ref C_InvalidCommand)), csl_InvalidCommand⟩)
    (su_InvalidCommand : PySem.W.ks_superIn K C_InvalidCommand C_InvalidCommand "__init__" = some (some (.builtin "ValueError.__init__"))) (se_InvalidCommand : PySem.W.mroIn K C_InvalidCommand (.ref C_InvalidCommand) = some true) (sb_InvalidCommand : PySem.W.subIn K (.ref C_InvalidCommand) (.type "ValueError") = some true) (op_InvalidCommand : PySem.W.nsIn K cStatics "thirdparty.any" = some none) (tp_InvalidCommand : (PW.main.scope.names.lookup ("super" : Str)).isSome = false)
    (sa_InvalidCommand : PySem.W.findIn K (.ref C_InvalidCommand) "__setattr__" = some (some (.builtin "object.__setattr__"))) (ti_InvalidCommand : PySem.W.typeIn K (.ref fi_InvalidCommand) = some (.type "function")) (kc_InvalidCommand : PySem.W.keepIn K (.ref C_InvalidCommand) = true) (ex_InvalidCommand : PySem.W.subIn K (.ref C_InvalidCommand) (.type "BaseException") = some true) (ty_InvalidCommand : PySem.W.typeIn K (.ref C_InvalidCommand) = some (.type "type"))
    (ga_InvalidCommand : PySem.W.findIn K (.ref C_InvalidCommand) "__getattribute__" = some (some (.builtin "BaseException.__getattribute__"))) (gg_InvalidCommand : PySem.W.findIn K (.ref C_InvalidCommand) "__getattr__" = some none) (hdc_InvalidCommand : PySem.W.hasDictIn K C_InvalidCommand = true) (ss_InvalidCommand : PySem.W.subIn K (.ref C_InvalidCommand) (.ref C_InvalidCommand) = some true)
    (nf_InvalidCommand_value : PySem.W.findIn K (.ref C_InvalidCommand) "value" = some none)
    {C_OtherLetters fi_OtherLetters pr_OtherLetters N_OtherLetters cda_OtherLetters cc_OtherLetters : Addr} {nm_OtherLetters q_OtherLetters : Str} {bs_OtherLetters : List Value} {sn_OtherLetters : List Str} {sub_OtherLetters : List Value} {ab_OtherLetters : Bool} {col_OtherLetters : Option Bool} {dd_OtherLetters : Option Addr} {k0_OtherLetters k1_OtherLetters k2_OtherLetters k3_OtherLetters k5_OtherLetters : Option Value} {kV_OtherLetters doc_OtherLetters pm_OtherLetters ct_OtherLetters oc_OtherLetters ccl_OtherLetters cl_OtherLetters : Value} {an_OtherLetters od_OtherLetters cdd_OtherLetters cld_OtherLetters : Option Addr} {osl_OtherLetters ccs_OtherLetters csl_OtherLetters : Array (Option Value)} {vs_OtherLetters : Array Value} {file_OtherLetters : Str} {tf_OtherLetters : Tok}
    (a_OtherLetters : PySem.W.nsIn K mainGlobals "OtherLetters" = some (some (.ref C_OtherLetters))) (lc_OtherLetters : K.lookup C_OtherLetters = some (excClassObj nm_OtherLetters q_OtherLetters C_OtherLetters N_OtherLetters bs_OtherLetters (.ref pr_OtherLetters :: [.type "RuntimeError", .type "Exception", .type "BaseException", .type "object"]) true sn_OtherLetters sub_OtherLetters ab_OtherLetters col_OtherLetters dd_OtherLetters k0_OtherLetters k1_OtherLetters k2_OtherLetters k3_OtherLetters k5_OtherLetters "RuntimeError.__new__"))
    (ii_OtherLetters : PySem.W.findIn K (.ref C_OtherLetters) "__init__" = some (some (.ref fi_OtherLetters))) (li_OtherLetters : K.lookup fi_OtherLetters = some ⟨oc_OtherLetters, od_OtherLetters, .func (PySem.W.ksFn "__init__" "OtherLetters.__init__" (defArgs s_OtherLetters_init) (defBody s_OtherLetters_init) (defScope s_OtherLetters_init) .none kV_OtherLetters doc_OtherLetters pm_OtherLetters an_OtherLetters (.ref cda_OtherLetters) ct_OtherLetters cc_OtherLetters), osl_OtherLetters⟩) (ei_OtherLetters : PySem.W.codeIn K (.ref cda_OtherLetters) "OtherLetters.__init__" = true)
    (lk_OtherLetters : K.lookup cda_OtherLetters = some ⟨ccl_OtherLetters, cdd_OtherLetters, .fields vs_OtherLetters, ccs_OtherLetters⟩) (v2_OtherLetters : vs_OtherLetters[2]? = some (.str file_OtherLetters tf_OtherLetters)) (fl_OtherLetters : ((PW.main.file : Str) == file_OtherLetters) = true) (lcc_OtherLetters : K.lookup cc_OtherLetters = some ⟨cl_OtherLetters, cld_OtherLetters, .cell (some (.ref C_OtherLetters)), csl_OtherLetters⟩)
    (su_OtherLetters : PySem.W.ks_superIn K C_OtherLetters C_OtherLetters "__init__" = some (some (.builtin "RuntimeError.__init__"))) (se_OtherLetters : PySem.W.mroIn K C_OtherLetters (.ref C_OtherLetters) = some true) (sb_OtherLetters : PySem.W.subIn K (.ref C_OtherLetters) (.type "RuntimeError") = some true) (op_OtherLetters : PySem.W.nsIn K cStatics "thirdparty.any" = some none) (tp_OtherLetters : (PW.main.scope.names.lookup ("super" : Str)).isSome = false)
    (sa_OtherLetters : PySem.W.findIn K (.ref C_OtherLetters) "__setattr__" = some (some (.builtin "object.__setattr__"))) (ti_OtherLetters : PySem.W.typeIn K (.ref fi_OtherLetters) = some (.type "function")) (kc_OtherLetters : PySem.W.keepIn K (.ref C_OtherLetters) = true) (ex_OtherLetters : PySem.W.subIn K (.ref C_OtherLetters) (.type "BaseException") = some true) (ty_OtherLetters : PySem.W.typeIn K (.ref C_OtherLetters) = some (.type "type"))
    (ga_OtherLetters : PySem.W.findIn K (.ref C_OtherLetters) "__getattribute__" = some (some (.builtin "BaseException.__getattribute__"))) (gg_OtherLetters : PySem.W.findIn K (.ref C_OtherLetters) "__getattr__" = some none) (hdc_OtherLetters : PySem.W.hasDictIn K C_OtherLetters = true) (ss_OtherLetters : PySem.W.subIn K (.ref C_OtherLetters) (.ref C_OtherLetters) = some true)
    (nf_OtherLetters_one : PySem.W.findIn K (.ref C_OtherLetters) "one" = some none)
    (nf_OtherLetters_other : PySem.W.findIn K (.ref C_OtherLetters) "other" = some none)
    {C_NotComeTo fi_NotComeTo pr_NotComeTo N_NotComeTo cda_NotComeTo cc_NotComeTo : Addr} {nm_NotComeTo q_NotComeTo : Str} {bs_NotComeTo : List Value} {sn_NotComeTo : List Str} {sub_NotComeTo : List Value} {ab_NotComeTo : Bool} {col_NotComeTo : Option Bool} {dd_NotComeTo : Option Addr} {k0_NotComeTo k1_NotComeTo k2_NotComeTo k3_NotComeTo k5_NotComeTo : Option Value} {kV_NotComeTo doc_NotComeTo pm_NotComeTo ct_NotComeTo oc_NotComeTo ccl_NotComeTo cl_NotComeTo : Value} {an_NotComeTo od_NotComeTo cdd_NotComeTo cld_NotComeTo : Option Addr} {osl_NotComeTo ccs_NotComeTo csl_NotComeTo : Array (Option Value)} {vs_NotComeTo : Array Value} {file_NotComeTo : Str} {tf_NotComeTo : Tok}
    (a_NotComeTo : PySem.W.nsIn K mainGlobals "NotComeTo" = some (some (.ref C_NotComeTo))) (lc_NotComeTo : K.lookup C_NotComeTo = some (excClassObj nm_NotComeTo q_NotComeTo C_NotComeTo N_NotComeTo bs_NotComeTo (.ref pr_NotComeTo :: [.type "RuntimeError", .type "Exception", .type "BaseException", .type "object"]) true sn_NotComeTo sub_NotComeTo ab_NotComeTo col_NotComeTo dd_NotComeTo k0_NotComeTo k1_NotComeTo k2_NotComeTo k3_NotComeTo k5_NotComeTo "RuntimeError.__new__"))
    (ii_NotComeTo : PySem.W.findIn K (.ref C_NotComeTo) "__init__" = some (some (.ref fi_NotComeTo))) (li_NotComeTo : K.lookup fi_NotComeTo = some ⟨oc_NotComeTo, od_NotComeTo, .func (PySem.W.ksFn "__init__" "NotComeTo.__init__" (defArgs s_NotComeTo_init) (defBody s_NotComeTo_init) (defScope s_NotComeTo_init) .none kV_NotComeTo doc_NotComeTo pm_NotComeTo an_NotComeTo (.ref cda_NotComeTo) ct_NotComeTo cc_NotComeTo), osl_NotComeTo⟩) (ei_NotComeTo : PySem.W.codeIn K (.ref cda_NotComeTo) "NotComeTo.__init__" = true)
    (lk_NotComeTo : K.lookup cda_NotComeTo = some ⟨ccl_NotComeTo, cdd_NotComeTo, .fields vs_NotComeTo, ccs_NotComeTo⟩) (v2_NotComeTo : vs_NotComeTo[2]? = some (.str file_NotComeTo tf_NotComeTo)) (fl_NotComeTo : ((PW.main.file : Str) == file_NotComeTo) = true) (lcc_NotComeTo : K.lookup cc_NotComeTo = some ⟨cl_NotComeTo, cld_NotComeTo, .cell (some (.ref C_NotComeTo)), csl_NotComeTo⟩)
    (su_NotComeTo : PySem.W.ks_superIn K C_NotComeTo C_NotComeTo "__init__" = some (some (.builtin "RuntimeError.__init__"))) (se_NotComeTo : PySem.W.mroIn K C_NotComeTo (.ref C_NotComeTo) = some true) (sb_NotComeTo : PySem.W.subIn K (.ref C_NotComeTo) (.type "RuntimeError") = some true) (op_NotComeTo : PySem.W.nsIn K cStatics "thirdparty.any" = some none) (tp_NotComeTo : (PW.main.scope.names.lookup ("super" : Str)).isSome = false)
    (sa_NotComeTo : PySem.W.findIn K (.ref C_NotComeTo) "__setattr__" = some (some (.builtin "object.__setattr__"))) (ti_NotComeTo : PySem.W.typeIn K (.ref fi_NotComeTo) = some (.type "function")) (kc_NotComeTo : PySem.W.keepIn K (.ref C_NotComeTo) = true) (ex_NotComeTo : PySem.W.subIn K (.ref C_NotComeTo) (.type "BaseException") = some true) (ty_NotComeTo : PySem.W.typeIn K (.ref C_NotComeTo) = some (.type "type"))
    (ga_NotComeTo : PySem.W.findIn K (.ref C_NotComeTo) "__getattribute__" = some (some (.builtin "BaseException.__getattribute__"))) (gg_NotComeTo : PySem.W.findIn K (.ref C_NotComeTo) "__getattr__" = some none) (hdc_NotComeTo : PySem.W.hasDictIn K C_NotComeTo = true) (ss_NotComeTo : PySem.W.subIn K (.ref C_NotComeTo) (.ref C_NotComeTo) = some true)
    (nf_NotComeTo_place : PySem.W.findIn K (.ref C_NotComeTo) "place" = some none)
    {C_NothingToUndo fi_NothingToUndo pr_NothingToUndo N_NothingToUndo cda_NothingToUndo cc_NothingToUndo : Addr} {nm_NothingToUndo q_NothingToUndo : Str} {bs_NothingToUndo : List Value} {sn_NothingToUndo : List Str} {sub_NothingToUndo : List Value} {ab_NothingToUndo : Bool} {col_NothingToUndo : Option Bool} {dd_NothingToUndo : Option Addr} {k0_NothingToUndo k1_NothingToUndo k2_NothingToUndo k3_NothingToUndo k5_NothingToUndo : Option Value} {kV_NothingToUndo doc_NothingToUndo pm_NothingToUndo ct_NothingToUndo oc_NothingToUndo ccl_NothingToUndo cl_NothingToUndo : Value} {an_NothingToUndo od_NothingToUndo cdd_NothingToUndo cld_NothingToUndo : Option Addr} {osl_NothingToUndo ccs_NothingToUndo csl_NothingToUndo : Array (Option Value)} {vs_NothingToUndo : Array Value} {file_NothingToUndo : Str} {tf_NothingToUndo : Tok}
    (a_NothingToUndo : PySem.W.nsIn K mainGlobals "NothingToUndo" = some (some (.ref C_NothingToUndo))) (lc_NothingToUndo : K.lookup C_NothingToUndo = some (excClassObj nm_NothingToUndo q_NothingToUndo C_NothingToUndo N_NothingToUndo bs_NothingToUndo (.ref pr_NothingToUndo :: [.type "RuntimeError", .type "Exception", .type "BaseException", .type "object"]) true sn_NothingToUndo sub_NothingToUndo ab_NothingToUndo col_NothingToUndo dd_NothingToUndo k0_NothingToUndo k1_NothingToUndo k2_NothingToUndo k3_NothingToUndo k5_NothingToUndo "RuntimeError.__new__"))
    (ii_NothingToUndo : PySem.W.findIn K (.ref C_NothingToUndo) "__init__" = some (some (.ref fi_NothingToUndo))) (li_NothingToUndo : K.lookup fi_NothingToUndo = some ⟨oc_NothingToUndo, od_NothingToUndo, .func (PySem.W.ksFn "__init__" "NothingToUndo.__init__" (defArgs s_NothingToUndo_init) (defBody s_NothingToUndo_init) (defScope s_NothingToUndo_init) .none kV_NothingToUndo doc_NothingToUndo pm_NothingToUndo an_NothingToUndo (.ref cda_NothingToUndo) ct_NothingToUndo cc_NothingToUndo), osl_NothingToUndo⟩) (ei_NothingToUndo : PySem.W.codeIn K (.ref cda_NothingToUndo) "NothingToUndo.__init__" = true)
    (lk_NothingToUndo : K.lookup cda_NothingToUndo = some ⟨ccl_NothingToUndo, cdd_NothingToUndo, .fields vs_NothingToUndo, ccs_NothingToUndo⟩) (v2_NothingToUndo : vs_NothingToUndo[2]? = some (.str file_NothingToUndo tf_NothingToUndo)) (fl_NothingToUndo : ((PW.main.file : Str) == file_NothingToUndo) = true) (lcc_NothingToUndo : K.lookup cc_NothingToUndo = some ⟨cl_NothingToUndo, cld_NothingToUndo, .cell (some (.ref C_NothingToUndo)), csl_NothingToUndo⟩)
    (su_NothingToUndo : PySem.W.ks_superIn K C_NothingToUndo C_NothingToUndo "__init__" = some (some (.builtin "RuntimeError.__init__"))) (se_NothingToUndo : PySem.W.mroIn K C_NothingToUndo (.ref C_NothingToUndo) = some true) (sb_NothingToUndo : PySem.W.subIn K (.ref C_NothingToUndo) (.type "RuntimeError") = some true) (op_NothingToUndo : PySem.W.nsIn K cStatics "thirdparty.any" = some none) (tp_NothingToUndo : (PW.main.scope.names.lookup ("super" : Str)).isSome = false)
    (sa_NothingToUndo : PySem.W.findIn K (.ref C_NothingToUndo) "__setattr__" = some (some (.builtin "object.__setattr__"))) (ti_NothingToUndo : PySem.W.typeIn K (.ref fi_NothingToUndo) = some (.type "function")) (kc_NothingToUndo : PySem.W.keepIn K (.ref C_NothingToUndo) = true) (ex_NothingToUndo : PySem.W.subIn K (.ref C_NothingToUndo) (.type "BaseException") = some true) (ty_NothingToUndo : PySem.W.typeIn K (.ref C_NothingToUndo) = some (.type "type"))
    (ga_NothingToUndo : PySem.W.findIn K (.ref C_NothingToUndo) "__getattribute__" = some (some (.builtin "BaseException.__getattribute__"))) (gg_NothingToUndo : PySem.W.findIn K (.ref C_NothingToUndo) "__getattr__" = some none) (hdc_NothingToUndo : PySem.W.hasDictIn K C_NothingToUndo = true) (ss_NothingToUndo : PySem.W.subIn K (.ref C_NothingToUndo) (.ref C_NothingToUndo) = some true)
    (xa_InvalidText : PySem.W.findIn K (.ref C_InvalidText) "__class__" = some (some (.builtin "object.__class__"))) (xn_InvalidText : PySem.W.specialIn K (.builtin "object.__class__") "__get__" = some (some (.builtin "getset_descriptor.__get__"))) (xt_InvalidText : PySem.W.takesIn K (.builtin "object.__class__") = some true) (xm_InvalidText : PySem.W.mroIn K C_InvalidText (.type "object") = some true)
    (xa_InvalidLetter : PySem.W.findIn K (.ref C_InvalidLetter) "__class__" = some (some (.builtin "object.__class__"))) (xn_InvalidLetter : PySem.W.specialIn K (.builtin "object.__class__") "__get__" = some (some (.builtin "getset_descriptor.__get__"))) (xt_InvalidLetter : PySem.W.takesIn K (.builtin "object.__class__") = some true) (xm_InvalidLetter : PySem.W.mroIn K C_InvalidLetter (.type "object") = some true)
    (xa_InvalidPlace : PySem.W.findIn K (.ref C_InvalidPlace) "__class__" = some (some (.builtin "object.__class__"))) (xn_InvalidPlace : PySem.W.specialIn K (.builtin "object.__class__") "__get__" = some (some (.builtin "getset_descriptor.__get__"))) (xt_InvalidPlace : PySem.W.takesIn K (.builtin "object.__class__") = some true) (xm_InvalidPlace : PySem.W.mroIn K C_InvalidPlace (.type "object") = some true)
    (xa_InvalidMachine : PySem.W.findIn K (.ref C_InvalidMachine) "__class__" = some (some (.builtin "object.__class__"))) (xn_InvalidMachine : PySem.W.specialIn K (.builtin "object.__class__") "__get__" = some (some (.builtin "getset_descriptor.__get__"))) (xt_InvalidMachine : PySem.W.takesIn K (.builtin "object.__class__") = some true) (xm_InvalidMachine : PySem.W.mroIn K C_InvalidMachine (.type "object") = some true)
    (xa_InvalidCommand : PySem.W.findIn K (.ref C_InvalidCommand) "__class__" = some (some (.builtin "object.__class__"))) (xn_InvalidCommand : PySem.W.specialIn K (.builtin "object.__class__") "__get__" = some (some (.builtin "getset_descriptor.__get__"))) (xt_InvalidCommand : PySem.W.takesIn K (.builtin "object.__class__") = some true) (xm_InvalidCommand : PySem.W.mroIn K C_InvalidCommand (.type "object") = some true)
    (xa_OtherLetters : PySem.W.findIn K (.ref C_OtherLetters) "__class__" = some (some (.builtin "object.__class__"))) (xn_OtherLetters : PySem.W.specialIn K (.builtin "object.__class__") "__get__" = some (some (.builtin "getset_descriptor.__get__"))) (xt_OtherLetters : PySem.W.takesIn K (.builtin "object.__class__") = some true) (xm_OtherLetters : PySem.W.mroIn K C_OtherLetters (.type "object") = some true)
    (xa_NotComeTo : PySem.W.findIn K (.ref C_NotComeTo) "__class__" = some (some (.builtin "object.__class__"))) (xn_NotComeTo : PySem.W.specialIn K (.builtin "object.__class__") "__get__" = some (some (.builtin "getset_descriptor.__get__"))) (xt_NotComeTo : PySem.W.takesIn K (.builtin "object.__class__") = some true) (xm_NotComeTo : PySem.W.mroIn K C_NotComeTo (.type "object") = some true)
    (xa_NothingToUndo : PySem.W.findIn K (.ref C_NothingToUndo) "__class__" = some (some (.builtin "object.__class__"))) (xn_NothingToUndo : PySem.W.specialIn K (.builtin "object.__class__") "__get__" = some (some (.builtin "getset_descriptor.__get__"))) (xt_NothingToUndo : PySem.W.takesIn K (.builtin "object.__class__") = some true) (xm_NothingToUndo : PySem.W.mroIn K C_NothingToUndo (.type "object") = some true)
    {C_PartsError : Addr} (a_PartsError : PySem.W.nsIn K mainGlobals "PartsError" = some (some (.ref C_PartsError)))
    {C_StateError : Addr} (a_StateError : PySem.W.nsIn K mainGlobals "StateError" = some (some (.ref C_StateError)))
    (et : ([C_InvalidCommand, C_InvalidLetter, C_InvalidMachine, C_InvalidPlace, C_InvalidText, C_NotComeTo, C_OtherLetters, C_NothingToUndo].zipIdx.all fun p => [C_InvalidCommand, C_InvalidLetter, C_InvalidMachine, C_InvalidPlace, C_InvalidText, C_NotComeTo, C_OtherLetters, C_NothingToUndo].zipIdx.all fun q => decide (PySem.W.exmOne K (.ref p.1) (.ref q.1) = some (decide (p.2 = q.2)))) = true)
    (kg : (([C_InvalidCommand, C_InvalidLetter, C_InvalidMachine, C_InvalidPlace, C_InvalidText].all fun c => decide (PySem.W.kitOne K (.ref c) (.ref C_PartsError) = some true)) && [C_OtherLetters, C_NothingToUndo].all fun c => decide (PySem.W.kitOne K (.ref c) (.ref C_StateError) = some true)) = true)
    (sfM : (PySem.W.selfFirst K C_Machine) = true)
    (sfD : (PySem.W.selfFirst K C_Desk) = true)
    (nrM : (noneIn (PySem.W.findIn K (.ref C_Machine) "__ror__") && noneIn (PySem.W.findIn K (.ref C_Machine) "__rsub__")) = true)
    (nst : (decide (PySem.W.mroIn K C_Machine (.type "str") = some false)) = true)
    (z_TypeError : PySem.W.nsIn K mainGlobals "TypeError" = some none)
    (z_abs : PySem.W.nsIn K mainGlobals "abs" = some none)
    (z_all : PySem.W.nsIn K mainGlobals "all" = some none)
    (z_any : PySem.W.nsIn K mainGlobals "any" = some none)
    (z_bool : PySem.W.nsIn K mainGlobals "bool" = some none)
    (z_divmod : PySem.W.nsIn K mainGlobals "divmod" = some none)
    (z_enumerate : PySem.W.nsIn K mainGlobals "enumerate" = some none)
    (z_int : PySem.W.nsIn K mainGlobals "int" = some none)
    (z_isinstance : PySem.W.nsIn K mainGlobals "isinstance" = some none)
    (z_len : PySem.W.nsIn K mainGlobals "len" = some none)
    (z_list : PySem.W.nsIn K mainGlobals "list" = some none)
    (z_max : PySem.W.nsIn K mainGlobals "max" = some none)
    (z_min : PySem.W.nsIn K mainGlobals "min" = some none)
    (z_property : PySem.W.nsIn K mainGlobals "property" = some none)
    (z_range : PySem.W.nsIn K mainGlobals "range" = some none)
    (z_repr : PySem.W.nsIn K mainGlobals "repr" = some none)
    (z_set : PySem.W.nsIn K mainGlobals "set" = some none)
    (z_sorted : PySem.W.nsIn K mainGlobals "sorted" = some none)
    (z_str : PySem.W.nsIn K mainGlobals "str" = some none)
    (z_super : PySem.W.nsIn K mainGlobals "super" = some none)
    (z_tuple : PySem.W.nsIn K mainGlobals "tuple" = some none)
    (z_zip : PySem.W.nsIn K mainGlobals "zip" = some none)
    {t_SMALL : Tok} (y_SMALL : PySem.W.nsIn K mainGlobals "SMALL" = some (some (.str "abcdefghijklmnopqrstuvwxyz" t_SMALL)))
    {t_MOST_LETTERS : Tok} (y_MOST_LETTERS : PySem.W.nsIn K mainGlobals "MOST_LETTERS" = some (some (.int 3 t_MOST_LETTERS)))
    {A_WHICH : Addr} (a_WHICH : PySem.W.nsIn K mainGlobals "WHICH" = some (some (.ref A_WHICH))) {od_WHICH : Option Addr} {n_WHICH : Nat} {sl_WHICH : Array (Option Value)} {t0_WHICH t1_WHICH : Tok} (l_WHICH : K.lookup A_WHICH = some ⟨.type "tuple", od_WHICH, .seq #[.str "one" t0_WHICH, .str "other" t1_WHICH] n_WHICH, sl_WHICH⟩)
    : ∃ T : All K mg, T.f_law = f_law ∧ T.d_law_refusals_right.code = cd_law_refusals_right ∧ T.d_law_change.code = cd_law_change ∧ T.d_law_right.code = cd_law_right := by
  have F_is_integer := fun_mk (st := s_is_integer) l_is_integer e_is_integer k_is_integer
  have B_is_integer := F_is_integer.binds (ps := ["value"]) fun _ _ _ _ _ _ us hl => match us, hl with | [_], _ => rfl
  have F_is_count := fun_mk (st := s_is_count) l_is_count e_is_count k_is_count
  have B_is_count := F_is_count.binds (ps := ["value"]) fun _ _ _ _ _ _ us hl => match us, hl with | [_], _ => rfl
  have F_is_list := fun_mk (st := s_is_list) l_is_list e_is_list k_is_list
  have B_is_list := F_is_list.binds (ps := ["value"]) fun _ _ _ _ _ _ us hl => match us, hl with | [_], _ => rfl
  have F_is_text := fun_mk (st := s_is_text) l_is_text e_is_text k_is_text
  have B_is_text := F_is_text.binds (ps := ["value"]) fun _ _ _ _ _ _ us hl => match us, hl with | [_], _ => rfl
  have F_are_letters := fun_mk (st := s_are_letters) l_are_letters e_are_letters k_are_letters
  have B_are_letters := F_are_letters.binds (ps := ["value"]) fun _ _ _ _ _ _ us hl => match us, hl with | [_], _ => rfl
  have F_is_text_over := fun_mk (st := s_is_text_over) l_is_text_over e_is_text_over k_is_text_over
  have B_is_text_over := F_is_text_over.binds (ps := ["letters", "value"]) fun _ _ _ _ _ _ us hl => match us, hl with | [_, _], _ => rfl
  have F_want_few := fun_mk (st := s_want_few) l_want_few e_want_few k_want_few
  have B_want_few := F_want_few.binds (ps := ["what", "many", "limit"]) fun _ _ _ _ _ _ us hl => match us, hl with | [_, _, _], _ => rfl
  have F_is_row := fun_mk (st := s_is_row) l_is_row e_is_row k_is_row
  have B_is_row := F_is_row.binds (ps := ["value", "size", "many"]) fun _ _ _ _ _ _ us hl => match us, hl with | [_, _, _], _ => rfl
  have F_want_machine := fun_mk (st := s_want_machine) l_want_machine e_want_machine k_want_machine
  have B_want_machine := F_want_machine.binds (ps := ["letters", "rows", "kinds"]) fun _ _ _ _ _ _ us hl => match us, hl with | [_, _, _], _ => rfl
  have F_met_from := fun_mk (st := s_met_from) l_met_from e_met_from k_met_from
  have B_met_from := F_met_from.binds (ps := ["rows", "start"]) fun _ _ _ _ _ _ us hl => match us, hl with | [_, _], _ => rfl
  have F_want_text := fun_mk (st := s_want_text) l_want_text e_want_text k_want_text
  have B_want_text := F_want_text.binds (ps := ["letters", "text"]) fun _ _ _ _ _ _ us hl => match us, hl with | [_, _], _ => rfl
  have F_want_letter := fun_mk (st := s_want_letter) l_want_letter e_want_letter k_want_letter
  have B_want_letter := F_want_letter.binds (ps := ["letters", "letter"]) fun _ _ _ _ _ _ us hl => match us, hl with | [_, _], _ => rfl
  have F_want_place := fun_mk (st := s_want_place) l_want_place e_want_place k_want_place
  have B_want_place := F_want_place.binds (ps := ["machine", "place"]) fun _ _ _ _ _ _ us hl => match us, hl with | [_, _], _ => rfl
  have F_want_same := fun_mk (st := s_want_same) l_want_same e_want_same k_want_same
  have B_want_same := F_want_same.binds (ps := ["one", "other"]) fun _ _ _ _ _ _ us hl => match us, hl with | [_, _], _ => rfl
  have F_want_right := fun_mk (st := s_want_right) l_want_right e_want_right k_want_right
  have B_want_right := F_want_right.binds (ps := ["machine", "value"]) fun _ _ _ _ _ _ us hl => match us, hl with | [_, _], _ => rfl
  have F_led := fun_mk (st := s_led) l_led e_led k_led
  have B_led := F_led.binds (ps := ["machine", "place", "text"]) fun _ _ _ _ _ _ us hl => match us, hl with | [_, _, _], _ => rfl
  have F_is_taken := fun_mk (st := s_is_taken) l_is_taken e_is_taken k_is_taken
  have B_is_taken := F_is_taken.binds (ps := ["machine", "text"]) fun _ _ _ _ _ _ us hl => match us, hl with | [_, _], _ => rfl
  have F_is_so := fun_mk (st := s_is_so) l_is_so e_is_so k_is_so
  have B_is_so := F_is_so.binds (ps := ["rule", "one", "other"]) fun _ _ _ _ _ _ us hl => match us, hl with | [_, _, _], _ => rfl
  have F_paired_by := fun_mk (st := s_paired_by) l_paired_by e_paired_by k_paired_by
  have B_paired_by := F_paired_by.binds (ps := ["one", "other", "rule"]) fun _ _ _ _ _ _ us hl => match us, hl with | [_, _, _], _ => rfl
  have F_lists_of := fun_mk (st := s_lists_of) l_lists_of e_lists_of k_lists_of
  have B_lists_of := F_lists_of.binds (ps := ["rows"]) fun _ _ _ _ _ _ us hl => match us, hl with | [_], _ => rfl
  have F_want_listed := fun_mk (st := s_want_listed) l_want_listed e_want_listed k_want_listed
  have B_want_listed := F_want_listed.binds (ps := ["machine", "places"]) fun _ _ _ _ _ _ us hl => match us, hl with | [_, _], _ => rfl
  have F_turned_by := fun_mk (st := s_turned_by) l_turned_by e_turned_by k_turned_by
  have B_turned_by := F_turned_by.binds (ps := ["machine", "places"]) fun _ _ _ _ _ _ us hl => match us, hl with | [_, _], _ => rfl
  have F_turned := fun_mk (st := s_turned) l_turned e_turned k_turned
  have B_turned := F_turned.binds (ps := ["machine", "places"]) fun _ _ _ _ _ _ us hl => match us, hl with | [_, _], _ => rfl
  have F_redirected := fun_mk (st := s_redirected) l_redirected e_redirected k_redirected
  have B_redirected := F_redirected.binds (ps := ["machine", "place", "letter", "goal"]) fun _ _ _ _ _ _ us hl => match us, hl with | [_, _, _, _], _ => rfl
  have F_law_pot := fun_mk (st := s_law_pot) l_law_pot e_law_pot k_law_pot
  have B_law_pot := F_law_pot.binds (ps := ["_law_script", "_law_k"]) fun _ _ _ _ _ _ us hl => match us, hl with | [_, _], _ => rfl
  have F_law_draw := fun_mk (st := s_law_draw) l_law_draw e_law_draw k_law_draw
  have B_law_draw := F_law_draw.binds (ps := ["_law_pot_here", "_law_sides"]) fun _ _ _ _ _ _ us hl => match us, hl with | [_, _], _ => rfl
  have F_law_pick := fun_mk (st := s_law_pick) l_law_pick e_law_pick k_law_pick
  have B_law_pick := F_law_pick.binds (ps := ["_law_pot_here", "_law_some"]) fun _ _ _ _ _ _ us hl => match us, hl with | [_, _], _ => rfl
  have F_law_met := fun_mk (st := s_law_met) l_law_met e_law_met k_law_met
  have B_law_met := F_law_met.binds (ps := ["_law_lines_here", "_law_sorts"]) fun _ _ _ _ _ _ us hl => match us, hl with | [_, _], _ => rfl
  have F_law_lines := fun_mk (st := s_law_lines) l_law_lines e_law_lines k_law_lines
  have B_law_lines := F_law_lines.binds (ps := ["_law_pot_here", "_law_size", "_law_most"]) fun _ _ _ _ _ _ us hl => match us, hl with | [_, _, _], _ => rfl
  have F_law_machine := fun_mk (st := s_law_machine) l_law_machine e_law_machine k_law_machine
  have B_law_machine := F_law_machine.binds (ps := ["_law_pot_here", "_law_signs", "_law_most"]) fun _ _ _ _ _ _ us hl => match us, hl with | [_, _, _], _ => rfl
  have F_law_led := fun_mk (st := s_law_led) l_law_led e_law_led k_law_led
  have B_law_led := F_law_led.binds (ps := ["_law_thing", "_law_place", "_law_letter", "_law_goal"]) fun _ _ _ _ _ _ us hl => match us, hl with | [_, _, _, _], _ => rfl
  have F_law_flipped := fun_mk (st := s_law_flipped) l_law_flipped e_law_flipped k_law_flipped
  have B_law_flipped := F_law_flipped.binds (ps := ["_law_thing", "_law_place"]) fun _ _ _ _ _ _ us hl => match us, hl with | [_, _], _ => rfl
  have F_law_heard := fun_mk (st := s_law_heard) l_law_heard e_law_heard k_law_heard
  have B_law_heard := F_law_heard.binds (ps := ["_law_call"]) fun _ _ _ _ _ _ us hl => match us, hl with | [_], _ => rfl
  have F_law_joined := fun_mk (st := s_law_joined) l_law_joined e_law_joined k_law_joined
  have B_law_joined := F_law_joined.binds (ps := ["_law_held", "_law_thing"]) fun _ _ _ _ _ _ us hl => match us, hl with | [_, _], _ => rfl
  have F_law_cut := fun_mk (st := s_law_cut) l_law_cut e_law_cut k_law_cut
  have B_law_cut := F_law_cut.binds (ps := ["_law_held", "_law_thing"]) fun _ _ _ _ _ _ us hl => match us, hl with | [_, _], _ => rfl
  have F_law_stands := fun_mk (st := s_law_stands) l_law_stands e_law_stands k_law_stands
  have B_law_stands := F_law_stands.binds (ps := ["_law_pot_here", "_law_held", "_law_one", "_law_other", "_law_many"]) fun _ _ _ _ _ _ us hl => match us, hl with | [_, _, _, _, _], _ => rfl
  have F_law_refusals_right := fun_mk (st := s_law_refusals_right) l_law_refusals_right e_law_refusals_right k_law_refusals_right
  have B_law_refusals_right := F_law_refusals_right.binds (ps := ["_law_pot_here", "_law_held", "_law_one", "_law_other"]) fun _ _ _ _ _ _ us hl => match us, hl with | [_, _, _, _], _ => rfl
  have F_law_change := fun_mk (st := s_law_change) l_law_change e_law_change k_law_change
  have B_law_change := F_law_change.binds (ps := ["_law_pot_here", "_law_held", "_law_one", "_law_other"]) fun _ _ _ _ _ _ us hl => match us, hl with | [_, _, _, _], _ => rfl
  have F_law_right := fun_mk (st := s_law_right) l_law_right e_law_right k_law_right
  have B_law_right := F_law_right.binds (ps := ["_law_pot_here"]) fun _ _ _ _ _ _ us hl => match us, hl with | [_], _ => rfl
  have F_law := fun_mk (st := s_law) l_law e_law k_law
  have B_law := F_law.binds (ps := ["_law_script"]) fun _ _ _ _ _ _ us hl => match us, hl with | [_], _ => rfl
  have F_Machine_init := fun_mk (st := s_Machine_init) l_Machine_init e_Machine_init k_Machine_init
  have B_Machine_init := F_Machine_init.binds (ps := ["self", "letters", "rows", "kinds"]) fun _ _ _ _ _ _ us hl => match us, hl with | [_, _, _, _], _ => rfl
  have F_Machine_rows := fun_mk (st := s_Machine_rows) l_Machine_rows e_Machine_rows k_Machine_rows
  have B_Machine_rows := F_Machine_rows.binds (ps := ["self"]) fun _ _ _ _ _ _ us hl => match us, hl with | [_], _ => rfl
  have F_Machine_kinds := fun_mk (st := s_Machine_kinds) l_Machine_kinds e_Machine_kinds k_Machine_kinds
  have B_Machine_kinds := F_Machine_kinds.binds (ps := ["self"]) fun _ _ _ _ _ _ us hl => match us, hl with | [_], _ => rfl
  have F_Machine_takes := fun_mk (st := s_Machine_takes) l_Machine_takes e_Machine_takes k_Machine_takes
  have B_Machine_takes := F_Machine_takes.binds (ps := ["self", "text"]) fun _ _ _ _ _ _ us hl => match us, hl with | [_, _], _ => rfl
  have F_Machine_len := fun_mk (st := s_Machine_len) l_Machine_len e_Machine_len k_Machine_len
  have B_Machine_len := F_Machine_len.binds (ps := ["self"]) fun _ _ _ _ _ _ us hl => match us, hl with | [_], _ => rfl
  have F_Machine_contains := fun_mk (st := s_Machine_contains) l_Machine_contains e_Machine_contains k_Machine_contains
  have B_Machine_contains := F_Machine_contains.binds (ps := ["self", "value"]) fun _ _ _ _ _ _ us hl => match us, hl with | [_, _], _ => rfl
  have F_Machine_eq := fun_mk (st := s_Machine_eq) l_Machine_eq e_Machine_eq k_Machine_eq
  have B_Machine_eq := F_Machine_eq.binds (ps := ["self", "other"]) fun _ _ _ _ _ _ us hl => match us, hl with | [_, _], _ => rfl
  have F_Machine_repr := fun_mk (st := s_Machine_repr) l_Machine_repr e_Machine_repr k_Machine_repr
  have B_Machine_repr := F_Machine_repr.binds (ps := ["self"]) fun _ _ _ _ _ _ us hl => match us, hl with | [_], _ => rfl
  have F_Machine_or := fun_mk (st := s_Machine_or) l_Machine_or e_Machine_or k_Machine_or
  have B_Machine_or := F_Machine_or.binds (ps := ["self", "other"]) fun _ _ _ _ _ _ us hl => match us, hl with | [_, _], _ => rfl
  have F_Machine_sub := fun_mk (st := s_Machine_sub) l_Machine_sub e_Machine_sub k_Machine_sub
  have B_Machine_sub := F_Machine_sub.binds (ps := ["self", "other"]) fun _ _ _ _ _ _ us hl => match us, hl with | [_, _], _ => rfl
  have F_Machine_letters := fun_mk (st := s_Machine_letters) l_Machine_letters e_Machine_letters k_Machine_letters
  have B_Machine_letters := F_Machine_letters.binds (ps := ["self"]) fun _ _ _ _ _ _ us hl => match us, hl with | [_], _ => rfl
  have F_Desk_init := fun_mk (st := s_Desk_init) l_Desk_init e_Desk_init k_Desk_init
  have B_Desk_init := F_Desk_init.binds (ps := ["self", "one", "other"]) fun _ _ _ _ _ _ us hl => match us, hl with | [_, _, _], _ => rfl
  have F_Desk_put := fun_mk (st := s_Desk_put) l_Desk_put e_Desk_put k_Desk_put
  have B_Desk_put := F_Desk_put.binds (ps := ["self", "one", "other"]) fun _ _ _ _ _ _ us hl => match us, hl with | [_, _, _], _ => rfl
  have F_Desk_named := fun_mk (st := s_Desk_named) l_Desk_named e_Desk_named k_Desk_named
  have B_Desk_named := F_Desk_named.binds (ps := ["self", "which"]) fun _ _ _ _ _ _ us hl => match us, hl with | [_, _], _ => rfl
  have F_Desk_put_named := fun_mk (st := s_Desk_put_named) l_Desk_put_named e_Desk_put_named k_Desk_put_named
  have B_Desk_put_named := F_Desk_put_named.binds (ps := ["self", "which", "machine"]) fun _ _ _ _ _ _ us hl => match us, hl with | [_, _, _], _ => rfl
  have F_Desk_turn := fun_mk (st := s_Desk_turn) l_Desk_turn e_Desk_turn k_Desk_turn
  have B_Desk_turn := F_Desk_turn.binds (ps := ["self", "which", "place"]) fun _ _ _ _ _ _ us hl => match us, hl with | [_, _, _], _ => rfl
  have F_Desk_lead := fun_mk (st := s_Desk_lead) l_Desk_lead e_Desk_lead k_Desk_lead
  have B_Desk_lead := F_Desk_lead.binds (ps := ["self", "which", "place", "letter", "goal"]) fun _ _ _ _ _ _ us hl => match us, hl with | [_, _, _, _, _], _ => rfl
  have F_Desk_swap := fun_mk (st := s_Desk_swap) l_Desk_swap e_Desk_swap k_Desk_swap
  have B_Desk_swap := F_Desk_swap.binds (ps := ["self"]) fun _ _ _ _ _ _ us hl => match us, hl with | [_], _ => rfl
  have F_Desk_undo := fun_mk (st := s_Desk_undo) l_Desk_undo e_Desk_undo k_Desk_undo
  have B_Desk_undo := F_Desk_undo.binds (ps := ["self"]) fun _ _ _ _ _ _ us hl => match us, hl with | [_], _ => rfl
  have F_Desk_iadd := fun_mk (st := s_Desk_iadd) l_Desk_iadd e_Desk_iadd k_Desk_iadd
  have B_Desk_iadd := F_Desk_iadd.binds (ps := ["self", "machine"]) fun _ _ _ _ _ _ us hl => match us, hl with | [_, _], _ => rfl
  have F_Desk_isub := fun_mk (st := s_Desk_isub) l_Desk_isub e_Desk_isub k_Desk_isub
  have B_Desk_isub := F_Desk_isub.binds (ps := ["self", "machine"]) fun _ _ _ _ _ _ us hl => match us, hl with | [_, _], _ => rfl
  have F_Desk_getitem := fun_mk (st := s_Desk_getitem) l_Desk_getitem e_Desk_getitem k_Desk_getitem
  have B_Desk_getitem := F_Desk_getitem.binds (ps := ["self", "text"]) fun _ _ _ _ _ _ us hl => match us, hl with | [_, _], _ => rfl
  have F_Desk_contains := fun_mk (st := s_Desk_contains) l_Desk_contains e_Desk_contains k_Desk_contains
  have B_Desk_contains := F_Desk_contains.binds (ps := ["self", "value"]) fun _ _ _ _ _ _ us hl => match us, hl with | [_, _], _ => rfl
  have F_Desk_len := fun_mk (st := s_Desk_len) l_Desk_len e_Desk_len k_Desk_len
  have B_Desk_len := F_Desk_len.binds (ps := ["self"]) fun _ _ _ _ _ _ us hl => match us, hl with | [_], _ => rfl
  have EF_InvalidText := errF_mk (P := PW) (ps := ["self", "value"]) PySem.F.excBase_ValueError PySem.W.kxs_ValueError (by decide +kernel) PySem.F.store_ValueError.passes lc_InvalidText li_InvalidText ei_InvalidText lk_InvalidText v2_InvalidText fl_InvalidText lcc_InvalidText (fun s us hl => match us, hl with | [_, _], _ => .of_eq rfl) su_InvalidText se_InvalidText sb_InvalidText op_InvalidText (PySem.W.mg_none_of X G z_super) tp_InvalidText sa_InvalidText ii_InvalidText ti_InvalidText kc_InvalidText ex_InvalidText ty_InvalidText
  have EF_InvalidLetter := errF_mk (P := PW) (ps := ["self", "value"]) PySem.F.excBase_ValueError PySem.W.kxs_ValueError (by decide +kernel) PySem.F.store_ValueError.passes lc_InvalidLetter li_InvalidLetter ei_InvalidLetter lk_InvalidLetter v2_InvalidLetter fl_InvalidLetter lcc_InvalidLetter (fun s us hl => match us, hl with | [_, _], _ => .of_eq rfl) su_InvalidLetter se_InvalidLetter sb_InvalidLetter op_InvalidLetter (PySem.W.mg_none_of X G z_super) tp_InvalidLetter sa_InvalidLetter ii_InvalidLetter ti_InvalidLetter kc_InvalidLetter ex_InvalidLetter ty_InvalidLetter
  have EF_InvalidPlace := errF_mk (P := PW) (ps := ["self", "value"]) PySem.F.excBase_ValueError PySem.W.kxs_ValueError (by decide +kernel) PySem.F.store_ValueError.passes lc_InvalidPlace li_InvalidPlace ei_InvalidPlace lk_InvalidPlace v2_InvalidPlace fl_InvalidPlace lcc_InvalidPlace (fun s us hl => match us, hl with | [_, _], _ => .of_eq rfl) su_InvalidPlace se_InvalidPlace sb_InvalidPlace op_InvalidPlace (PySem.W.mg_none_of X G z_super) tp_InvalidPlace sa_InvalidPlace ii_InvalidPlace ti_InvalidPlace kc_InvalidPlace ex_InvalidPlace ty_InvalidPlace
  have EF_InvalidMachine := errF_mk (P := PW) (ps := ["self", "value"]) PySem.F.excBase_ValueError PySem.W.kxs_ValueError (by decide +kernel) PySem.F.store_ValueError.passes lc_InvalidMachine li_InvalidMachine ei_InvalidMachine lk_InvalidMachine v2_InvalidMachine fl_InvalidMachine lcc_InvalidMachine (fun s us hl => match us, hl with | [_, _], _ => .of_eq rfl) su_InvalidMachine se_InvalidMachine sb_InvalidMachine op_InvalidMachine (PySem.W.mg_none_of X G z_super) tp_InvalidMachine sa_InvalidMachine ii_InvalidMachine ti_InvalidMachine kc_InvalidMachine ex_InvalidMachine ty_InvalidMachine
  have EF_InvalidCommand := errF_mk (P := PW) (ps := ["self", "value"]) PySem.F.excBase_ValueError PySem.W.kxs_ValueError (by decide +kernel) PySem.F.store_ValueError.passes lc_InvalidCommand li_InvalidCommand ei_InvalidCommand lk_InvalidCommand v2_InvalidCommand fl_InvalidCommand lcc_InvalidCommand (fun s us hl => match us, hl with | [_, _], _ => .of_eq rfl) su_InvalidCommand se_InvalidCommand sb_InvalidCommand op_InvalidCommand (PySem.W.mg_none_of X G z_super) tp_InvalidCommand sa_InvalidCommand ii_InvalidCommand ti_InvalidCommand kc_InvalidCommand ex_InvalidCommand ty_InvalidCommand
  have EF_OtherLetters := errF_mk (P := PW) (ps := ["self", "one", "other"]) PySem.F.excBase_RuntimeError PySem.W.kxs_RuntimeError (by decide +kernel) PySem.F.store_RuntimeError.passes lc_OtherLetters li_OtherLetters ei_OtherLetters lk_OtherLetters v2_OtherLetters fl_OtherLetters lcc_OtherLetters (fun s us hl => match us, hl with | [_, _, _], _ => .of_eq rfl) su_OtherLetters se_OtherLetters sb_OtherLetters op_OtherLetters (PySem.W.mg_none_of X G z_super) tp_OtherLetters sa_OtherLetters ii_OtherLetters ti_OtherLetters kc_OtherLetters ex_OtherLetters ty_OtherLetters
  have EF_NotComeTo := errF_mk (P := PW) (ps := ["self", "place"]) PySem.F.excBase_RuntimeError PySem.W.kxs_RuntimeError (by decide +kernel) PySem.F.store_RuntimeError.passes lc_NotComeTo li_NotComeTo ei_NotComeTo lk_NotComeTo v2_NotComeTo fl_NotComeTo lcc_NotComeTo (fun s us hl => match us, hl with | [_, _], _ => .of_eq rfl) su_NotComeTo se_NotComeTo sb_NotComeTo op_NotComeTo (PySem.W.mg_none_of X G z_super) tp_NotComeTo sa_NotComeTo ii_NotComeTo ti_NotComeTo kc_NotComeTo ex_NotComeTo ty_NotComeTo
  have EF_NothingToUndo := errF_mk (P := PW) (ps := ["self"]) PySem.F.excBase_RuntimeError PySem.W.kxs_RuntimeError (by decide +kernel) PySem.F.store_RuntimeError.passes lc_NothingToUndo li_NothingToUndo ei_NothingToUndo lk_NothingToUndo v2_NothingToUndo fl_NothingToUndo lcc_NothingToUndo (fun s us hl => match us, hl with | [_], _ => .of_eq rfl) su_NothingToUndo se_NothingToUndo sb_NothingToUndo op_NothingToUndo (PySem.W.mg_none_of X G z_super) tp_NothingToUndo sa_NothingToUndo ii_NothingToUndo ti_NothingToUndo kc_NothingToUndo ex_NothingToUndo ty_NothingToUndo
  exact ⟨⟨_, PySem.W.mg_of X G a_InvalidText, ⟨_, _, _, _, _, _, _, _, ⟨EF_InvalidText, es_InvalidText⟩, eb_InvalidText, nf_InvalidText_value, (fun _ _ _ _ e => by rw [li_InvalidText] at e; cases e; rfl), kw_InvalidText⟩, ⟨ga_InvalidText, gg_InvalidText, ex_InvalidText, hdc_InvalidText⟩, ⟨ga_InvalidText, gg_InvalidText, ex_InvalidText, hdc_InvalidText, xa_InvalidText, xn_InvalidText, xt_InvalidText, xm_InvalidText⟩,
    nf_InvalidText_value,
    _, PySem.W.mg_of X G a_InvalidLetter, ⟨_, _, _, _, _, _, _, _, ⟨EF_InvalidLetter, es_InvalidLetter⟩, eb_InvalidLetter, nf_InvalidLetter_value, (fun _ _ _ _ e => by rw [li_InvalidLetter] at e; cases e; rfl), kw_InvalidLetter⟩, ⟨ga_InvalidLetter, gg_InvalidLetter, ex_InvalidLetter, hdc_InvalidLetter⟩, ⟨ga_InvalidLetter, gg_InvalidLetter, ex_InvalidLetter, hdc_InvalidLetter, xa_InvalidLetter, xn_InvalidLetter, xt_InvalidLetter, xm_InvalidLetter⟩,
    nf_InvalidLetter_value,
    _, PySem.W.mg_of X G a_InvalidPlace, ⟨_, _, _, _, _, _, _, _, ⟨EF_InvalidPlace, es_InvalidPlace⟩, eb_InvalidPlace, nf_InvalidPlace_value, (fun _ _ _ _ e => by rw [li_InvalidPlace] at e; cases e; rfl), kw_InvalidPlace⟩, ⟨ga_InvalidPlace, gg_InvalidPlace, ex_InvalidPlace, hdc_InvalidPlace⟩, ⟨ga_InvalidPlace, gg_InvalidPlace, ex_InvalidPlace, hdc_InvalidPlace, xa_InvalidPlace, xn_InvalidPlace, xt_InvalidPlace, xm_InvalidPlace⟩,
    nf_InvalidPlace_value,
    _, PySem.W.mg_of X G a_InvalidMachine, ⟨_, _, _, _, _, _, _, _, ⟨EF_InvalidMachine, es_InvalidMachine⟩, eb_InvalidMachine, nf_InvalidMachine_value, (fun _ _ _ _ e => by rw [li_InvalidMachine] at e; cases e; rfl), kw_InvalidMachine⟩, ⟨ga_InvalidMachine, gg_InvalidMachine, ex_InvalidMachine, hdc_InvalidMachine⟩, ⟨ga_InvalidMachine, gg_InvalidMachine, ex_InvalidMachine, hdc_InvalidMachine, xa_InvalidMachine, xn_InvalidMachine, xt_InvalidMachine, xm_InvalidMachine⟩,
    nf_InvalidMachine_value,
    _, PySem.W.mg_of X G a_InvalidCommand, ⟨_, _, _, _, _, _, _, _, ⟨EF_InvalidCommand, es_InvalidCommand⟩, eb_InvalidCommand, nf_InvalidCommand_value, (fun _ _ _ _ e => by rw [li_InvalidCommand] at e; cases e; rfl), kw_InvalidCommand⟩, ⟨ga_InvalidCommand, gg_InvalidCommand, ex_InvalidCommand, hdc_InvalidCommand⟩, ⟨ga_InvalidCommand, gg_InvalidCommand, ex_InvalidCommand, hdc_InvalidCommand, xa_InvalidCommand, xn_InvalidCommand, xt_InvalidCommand, xm_InvalidCommand⟩,
    nf_InvalidCommand_value,
    _, PySem.W.mg_of X G a_OtherLetters, ⟨_, _, _, _, _, _, _, _, ⟨EF_OtherLetters, es_OtherLetters⟩, eb_OtherLetters, ⟨nf_OtherLetters_one, nf_OtherLetters_other⟩, (fun _ _ _ _ e => by rw [li_OtherLetters] at e; cases e; rfl), kw_OtherLetters⟩, ⟨ga_OtherLetters, gg_OtherLetters, ex_OtherLetters, hdc_OtherLetters⟩, ⟨ga_OtherLetters, gg_OtherLetters, ex_OtherLetters, hdc_OtherLetters, xa_OtherLetters, xn_OtherLetters, xt_OtherLetters, xm_OtherLetters⟩,
    nf_OtherLetters_one,
    nf_OtherLetters_other,
    _, PySem.W.mg_of X G a_NotComeTo, ⟨_, _, _, _, _, _, _, _, ⟨EF_NotComeTo, es_NotComeTo⟩, eb_NotComeTo, nf_NotComeTo_place, (fun _ _ _ _ e => by rw [li_NotComeTo] at e; cases e; rfl), kw_NotComeTo⟩, ⟨ga_NotComeTo, gg_NotComeTo, ex_NotComeTo, hdc_NotComeTo⟩, ⟨ga_NotComeTo, gg_NotComeTo, ex_NotComeTo, hdc_NotComeTo, xa_NotComeTo, xn_NotComeTo, xt_NotComeTo, xm_NotComeTo⟩,
    nf_NotComeTo_place,
    _, PySem.W.mg_of X G a_NothingToUndo, ⟨_, _, _, _, _, _, _, _, ⟨EF_NothingToUndo, es_NothingToUndo⟩, eb_NothingToUndo⟩, ⟨ga_NothingToUndo, gg_NothingToUndo, ex_NothingToUndo, hdc_NothingToUndo⟩, ⟨ga_NothingToUndo, gg_NothingToUndo, ex_NothingToUndo, hdc_NothingToUndo, xa_NothingToUndo, xn_NothingToUndo, xt_NothingToUndo, xm_NothingToUndo⟩,
    _, _, ⟨F_is_integer, B_is_integer, PySem.W.mg_of X G a_is_integer⟩,
    _, _, ⟨F_is_count, B_is_count, PySem.W.mg_of X G a_is_count⟩,
    _, _, ⟨F_is_list, B_is_list, PySem.W.mg_of X G a_is_list⟩,
    _, _, ⟨F_is_text, B_is_text, PySem.W.mg_of X G a_is_text⟩,
    _, _, ⟨F_are_letters, B_are_letters, PySem.W.mg_of X G a_are_letters⟩,
    _, _, ⟨F_is_text_over, B_is_text_over, PySem.W.mg_of X G a_is_text_over⟩,
    _, _, ⟨F_want_few, B_want_few, PySem.W.mg_of X G a_want_few⟩,
    _, _, ⟨F_is_row, B_is_row, PySem.W.mg_of X G a_is_row⟩,
    _, _, ⟨F_want_machine, B_want_machine, PySem.W.mg_of X G a_want_machine⟩,
    _, _, ⟨F_met_from, B_met_from, PySem.W.mg_of X G a_met_from⟩,
    _, _, ⟨F_want_text, B_want_text, PySem.W.mg_of X G a_want_text⟩,
    _, _, ⟨F_want_letter, B_want_letter, PySem.W.mg_of X G a_want_letter⟩,
    _, _, ⟨F_want_place, B_want_place, PySem.W.mg_of X G a_want_place⟩,
    _, _, ⟨F_want_same, B_want_same, PySem.W.mg_of X G a_want_same⟩,
    _, _, ⟨F_want_right, B_want_right, PySem.W.mg_of X G a_want_right⟩,
    _, _, ⟨F_led, B_led, PySem.W.mg_of X G a_led⟩,
    _, _, ⟨F_is_taken, B_is_taken, PySem.W.mg_of X G a_is_taken⟩,
    _, _, ⟨F_is_so, B_is_so, PySem.W.mg_of X G a_is_so⟩,
    _, _, ⟨F_paired_by, B_paired_by, PySem.W.mg_of X G a_paired_by⟩,
    _, _, ⟨F_lists_of, B_lists_of, PySem.W.mg_of X G a_lists_of⟩,
    _, _, ⟨F_want_listed, B_want_listed, PySem.W.mg_of X G a_want_listed⟩,
    _, _, ⟨F_turned_by, B_turned_by, PySem.W.mg_of X G a_turned_by⟩,
    _, _, ⟨F_turned, B_turned, PySem.W.mg_of X G a_turned⟩,
    _, _, ⟨F_redirected, B_redirected, PySem.W.mg_of X G a_redirected⟩,
    _, _, ⟨F_law_pot, B_law_pot, PySem.W.mg_of X G a_law_pot⟩,
    _, _, ⟨F_law_draw, B_law_draw, PySem.W.mg_of X G a_law_draw⟩,
    _, _, ⟨F_law_pick, B_law_pick, PySem.W.mg_of X G a_law_pick⟩,
    _, _, ⟨F_law_met, B_law_met, PySem.W.mg_of X G a_law_met⟩,
    _, _, ⟨F_law_lines, B_law_lines, PySem.W.mg_of X G a_law_lines⟩,
    _, _, ⟨F_law_machine, B_law_machine, PySem.W.mg_of X G a_law_machine⟩,
    _, _, ⟨F_law_led, B_law_led, PySem.W.mg_of X G a_law_led⟩,
    _, _, ⟨F_law_flipped, B_law_flipped, PySem.W.mg_of X G a_law_flipped⟩,
    _, _, ⟨F_law_heard, B_law_heard, PySem.W.mg_of X G a_law_heard⟩,
    _, _, ⟨F_law_joined, B_law_joined, PySem.W.mg_of X G a_law_joined⟩,
    _, _, ⟨F_law_cut, B_law_cut, PySem.W.mg_of X G a_law_cut⟩,
    _, _, ⟨F_law_stands, B_law_stands, PySem.W.mg_of X G a_law_stands⟩,
    _, _, ⟨F_law_refusals_right, B_law_refusals_right, PySem.W.mg_of X G a_law_refusals_right⟩,
    _, _, ⟨F_law_change, B_law_change, PySem.W.mg_of X G a_law_change⟩,
    _, _, ⟨F_law_right, B_law_right, PySem.W.mg_of X G a_law_right⟩,
    _, _, ⟨F_law, B_law, PySem.W.mg_of X G a_law⟩,
    _, ⟨pg_Machine, hd_Machine, po_Machine, sa_Machine⟩, PySem.W.mg_of X G a_Machine, mk_Machine, kc_Machine, ca_Machine, cg_Machine, ct_Machine, ne_Machine, tt_Machine, ⟨cr_Machine, ck_Machine⟩,
    ⟨_, ⟨cv_Machine_MOST_PLACES, ⟨_, rfl⟩⟩⟩,
    nf_Machine_own_letters,
    nf_Machine_own_rows,
    nf_Machine_own_kinds,
    ⟨_, ⟨ka_Machine_MOST_PLACES, ⟨_, rfl⟩, kg_Machine_MOST_PLACES, by decide +kernel⟩⟩,
    _, _, ⟨F_Machine_init, B_Machine_init, ⟨a_Machine_init, i_Machine_init, k_Machine_init⟩⟩,
    _, _, ⟨F_Machine_rows, B_Machine_rows, ⟨a_Machine_rows, i_Machine_rows, k_Machine_rows⟩⟩,
    _, _, ⟨F_Machine_kinds, B_Machine_kinds, ⟨a_Machine_kinds, i_Machine_kinds, k_Machine_kinds⟩⟩,
    _, _, ⟨F_Machine_takes, B_Machine_takes, ⟨a_Machine_takes, i_Machine_takes, k_Machine_takes⟩⟩,
    _, _, ⟨F_Machine_len, B_Machine_len, ⟨a_Machine_len, i_Machine_len, k_Machine_len⟩⟩,
    _, _, ⟨F_Machine_contains, B_Machine_contains, ⟨a_Machine_contains, i_Machine_contains, k_Machine_contains⟩⟩,
    _, _, ⟨F_Machine_eq, B_Machine_eq, ⟨a_Machine_eq, i_Machine_eq, k_Machine_eq⟩⟩,
    _, _, ⟨F_Machine_repr, B_Machine_repr, ⟨a_Machine_repr, i_Machine_repr, k_Machine_repr⟩⟩,
    _, _, ⟨F_Machine_or, B_Machine_or, ⟨a_Machine_or, i_Machine_or, k_Machine_or⟩⟩,
    _, _, ⟨F_Machine_sub, B_Machine_sub, ⟨a_Machine_sub, i_Machine_sub, k_Machine_sub⟩⟩,
    _, _, _, ⟨F_Machine_letters, B_Machine_letters, ⟨a_Machine_letters, pg_Machine_letters, pt_Machine_letters, ⟨_, pr_Machine_letters⟩⟩⟩,
    _, ⟨pg_Desk, hd_Desk, po_Desk, sa_Desk⟩, PySem.W.mg_of X G a_Desk, mk_Desk, kc_Desk, ca_Desk, cg_Desk, ct_Desk, ne_Desk, tt_Desk, ⟨cr_Desk, ck_Desk⟩,
    nf_Desk_one,
    nf_Desk_other,
    nf_Desk_own_past,
    _, _, ⟨F_Desk_init, B_Desk_init, ⟨a_Desk_init, i_Desk_init, k_Desk_init⟩⟩,
    _, _, ⟨F_Desk_put, B_Desk_put, ⟨a_Desk_put, i_Desk_put, k_Desk_put⟩⟩,
    _, _, ⟨F_Desk_named, B_Desk_named, ⟨a_Desk_named, i_Desk_named, k_Desk_named⟩⟩,
    _, _, ⟨F_Desk_put_named, B_Desk_put_named, ⟨a_Desk_put_named, i_Desk_put_named, k_Desk_put_named⟩⟩,
    _, _, ⟨F_Desk_turn, B_Desk_turn, ⟨a_Desk_turn, i_Desk_turn, k_Desk_turn⟩⟩,
    _, _, ⟨F_Desk_lead, B_Desk_lead, ⟨a_Desk_lead, i_Desk_lead, k_Desk_lead⟩⟩,
    _, _, ⟨F_Desk_swap, B_Desk_swap, ⟨a_Desk_swap, i_Desk_swap, k_Desk_swap⟩⟩,
    _, _, ⟨F_Desk_undo, B_Desk_undo, ⟨a_Desk_undo, i_Desk_undo, k_Desk_undo⟩⟩,
    _, _, ⟨F_Desk_iadd, B_Desk_iadd, ⟨a_Desk_iadd, i_Desk_iadd, k_Desk_iadd⟩⟩,
    _, _, ⟨F_Desk_isub, B_Desk_isub, ⟨a_Desk_isub, i_Desk_isub, k_Desk_isub⟩⟩,
    _, _, ⟨F_Desk_getitem, B_Desk_getitem, ⟨a_Desk_getitem, i_Desk_getitem, k_Desk_getitem⟩⟩,
    _, _, ⟨F_Desk_contains, B_Desk_contains, ⟨a_Desk_contains, i_Desk_contains, k_Desk_contains⟩⟩,
    _, _, ⟨F_Desk_len, B_Desk_len, ⟨a_Desk_len, i_Desk_len, k_Desk_len⟩⟩,
    _, PySem.W.mg_of X G a_PartsError,
    _, PySem.W.mg_of X G a_StateError,
    et,
    kg,
    sfM,
    sfD,
    nrM,
    nst,
    PySem.W.mg_none_of X G z_TypeError,
    PySem.W.mg_none_of X G z_abs,
    PySem.W.mg_none_of X G z_all,
    PySem.W.mg_none_of X G z_any,
    PySem.W.mg_none_of X G z_bool,
    PySem.W.mg_none_of X G z_divmod,
    PySem.W.mg_none_of X G z_enumerate,
    PySem.W.mg_none_of X G z_int,
    PySem.W.mg_none_of X G z_isinstance,
    PySem.W.mg_none_of X G z_len,
    PySem.W.mg_none_of X G z_list,
    PySem.W.mg_none_of X G z_max,
    PySem.W.mg_none_of X G z_min,
    PySem.W.mg_none_of X G z_property,
    PySem.W.mg_none_of X G z_range,
    PySem.W.mg_none_of X G z_repr,
    PySem.W.mg_none_of X G z_set,
    PySem.W.mg_none_of X G z_sorted,
    PySem.W.mg_none_of X G z_str,
    PySem.W.mg_none_of X G z_super,
    PySem.W.mg_none_of X G z_tuple,
    PySem.W.mg_none_of X G z_zip,
    ⟨_, PySem.W.mg_of X G y_SMALL⟩,
    ⟨_, PySem.W.mg_of X G y_MOST_LETTERS⟩,
    _, PySem.W.mg_of X G a_WHICH, (fun _ => .inr ⟨_, _, _, l_WHICH, rfl, rfl, (by show 2 ≤ sizeLine; decide), (.cons ⟨_, rfl⟩ (.cons ⟨_, rfl⟩ .nil))⟩)⟩, rfl, rfl, rfl, rfl⟩
/-- where the table of a code object lies -/
def pOf (K : PySem.W.Frag) (c : Addr) : Addr := match K.lookup c with
  | some ⟨_, _, .fields vs, _⟩ => (match (vs[11]? : Option Value) with | some (.ref P) => P | _ => 0)
  | _ => 0
theorem finN {w : World} {K : PySem.W.Frag} {mg mb : Str → Option Value} {fa fl a c0 c1 c2 : Addr} {s₁ : Shared} {vs : List Value} {ns : List Int} {ts : List Addr}
    (KX : K.In s₁.heap) (hns : s₁.heap.Ns mainGlobals mg) (hb : s₁.heap.Ns builtinsNs mb) (hbb : ∀ x : Str, x ≠ "__name__" → mb x = bootBuiltins x) (hlim : s₁.heap.NoLimit) (hg : s₁.gens = #[])
    (hT : ∀ P ∈ ts, s₁.heap.get? P = some (PySem.W.tabObj #[])) (m0 : ts.contains (pOf K c0) = true) (m1 : ts.contains (pOf K c1) = true) (m2 : ts.contains (pOf K c2) = true)
    (nT0 : (K.lookup (pOf K c0)).isNone = true) (nT1 : (K.lookup (pOf K c1)).isNone = true) (nT2 : (K.lookup (pOf K c2)).isNone = true) (hC0 : PySem.W.codeHdIn K c0 (pOf K c0) = true) (hC1 : PySem.W.codeHdIn K c1 (pOf K c1) = true) (hC2 : PySem.W.codeHdIn K c2 (pOf K c2) = true)
    (h01 : (pOf K c0 == pOf K c1) = false) (h02 : (pOf K c0 == pOf K c2) = false) (h12 : (pOf K c1 == pOf K c2) = false)
    (hbm : ∃ (bm : Addr) (ob : Obj), mg "__builtins__" = some (.ref bm) ∧ bm ≠ builtinsNs ∧ s₁.heap.get? bm = some ob ∧ ob.cls = .type "module" ∧ ob.dict = some builtinsNs ∧ ob.data = .plain)
    (ha : s₁.heap.get? a = some { cls := .type "list", data := .seq vs.toArray }) (hi : IntsAre vs ns) (hl : ns.length ≤ sizeLine) (hmg : mg "law" = some (.ref fa))
    (hall : ∃ T : All K mg, T.f_law = fl ∧ T.d_law_refusals_right.code = .ref c0 ∧ T.d_law_change.code = .ref c1 ∧ T.d_law_right.code = .ref c2) :
    codeAny (model PW w) callerA (.call (.ref fa) ⟨[.ref a], []⟩) (fun r s' => r = .ok (.ret (.bool true)) ∧ OldK s₁.heap s'.heap ∧ s'.os = s₁.os ∧ AllBare s'.gens) s₁ := by
  have mm : ∀ {P : Addr}, ts.contains P = true → P ∈ ts := fun h => List.contains_iff_mem.mp h
  have nn : ∀ {P : Addr}, (K.lookup P).isNone = true → K.lookup P = none := fun h => Option.isNone_iff_eq_none.mp h
  have dd : ∀ {P Q : Addr}, (P == Q) = false → P ≠ Q := fun h => beq_eq_false_iff_ne.mp h
  exact fin KX hns hb hbb hlim hg (hT _ (mm m0)) (hT _ (mm m1)) (hT _ (mm m2)) (nn nT0) (nn nT1) (nn nT2) hC0 hC1 hC2 (dd h01) (dd h02) (dd h12) hbm ha hi hl hmg hall
end Lw
open PySem PySem.W PyProof.Rows
set_option maxRecDepth 100000 in
set_option maxHeartbeats 0 in
theorem PySem.Challenge.cw_missedparts_k97_desk_told_and_refused_holds : PySem.Challenge.rw_missedparts_k97_desk_told_and_refused.Holds :=
  Lw.hd (by
  k_fill
  refine Att.attach_callB rfl rfl fun w s₀ s₁ mg mb fa o pm cd doc a vs ns G Y ho hd hcd hmg hobj hints hlen hbits hg => ?_
  have KX := PySem.W.km_in_of Y
  have GG := G.T.g
  refine' Lw.finN KX GG G.T.b G.T.builtins G.T.nolimit hg (PySem.W.km_tabs_of Y) ?m0 ?m1 ?m2 ?nT0 ?nT1 ?nT2 ?hC0 ?hC1 ?hC2 ?h01 ?h02 ?h12 G.T.bmain hobj hints (Nat.le_trans hlen (by decide)) hmg (Lw.all_mk KX GG ?a_is_integer ?l_is_integer ?e_is_integer ?k_is_integer ?a_is_count ?l_is_count ?e_is_count ?k_is_count ?a_is_list ?l_is_list ?e_is_list ?k_is_list ?a_is_text ?l_is_text ?e_is_text ?k_is_text ?a_are_letters ?l_are_letters ?e_are_letters ?k_are_letters ?a_is_text_over ?l_is_text_over ?e_is_text_over ?k_is_text_over ?a_want_few ?l_want_few ?e_want_few ?k_want_few ?a_is_row ?l_is_row ?e_is_row ?k_is_row ?a_want_machine ?l_want_machine ?e_want_machine ?k_want_machine ?a_met_from ?l_met_from ?e_met_from ?k_met_from ?a_want_text ?l_want_text ?e_want_text ?k_want_text ?a_want_letter ?l_want_letter ?e_want_letter ?k_want_letter ?a_want_place ?l_want_place ?e_want_place ?k_want_place ?a_want_same ?l_want_same ?e_want_same ?k_want_same ?a_want_right ?l_want_right ?e_want_right ?k_want_right ?a_led ?l_led ?e_led ?k_led ?a_is_taken ?l_is_taken ?e_is_taken ?k_is_taken ?a_is_so ?l_is_so ?e_is_so ?k_is_so ?a_paired_by ?l_paired_by ?e_paired_by ?k_paired_by ?a_lists_of ?l_lists_of ?e_lists_of ?k_lists_of ?a_want_listed ?l_want_listed ?e_want_listed ?k_want_listed ?a_turned_by ?l_turned_by ?e_turned_by ?k_turned_by ?a_turned ?l_turned ?e_turned ?k_turned ?a_redirected ?l_redirected ?e_redirected ?k_redirected ?a_law_pot ?l_law_pot ?e_law_pot ?k_law_pot ?a_law_draw ?l_law_draw ?e_law_draw ?k_law_draw ?a_law_pick ?l_law_pick ?e_law_pick ?k_law_pick ?a_law_met ?l_law_met ?e_law_met ?k_law_met ?a_law_lines ?l_law_lines ?e_law_lines ?k_law_lines ?a_law_machine ?l_law_machine ?e_law_machine ?k_law_machine ?a_law_led ?l_law_led ?e_law_led ?k_law_led ?a_law_flipped ?l_law_flipped ?e_law_flipped ?k_law_flipped ?a_law_heard ?l_law_heard ?e_law_heard ?k_law_heard ?a_law_joined ?l_law_joined ?e_law_joined ?k_law_joined ?a_law_cut ?l_law_cut ?e_law_cut ?k_law_cut ?a_law_stands ?l_law_stands ?e_law_stands ?k_law_stands ?a_law_refusals_right ?l_law_refusals_right ?e_law_refusals_right ?k_law_refusals_right ?a_law_change ?l_law_change ?e_law_change ?k_law_change ?a_law_right ?l_law_right ?e_law_right ?k_law_right ?a_law ?l_law ?e_law ?k_law ?a_Machine ?pg_Machine ?hd_Machine ?po_Machine ?sa_Machine ?mk_Machine ?kc_Machine ?ca_Machine ?cg_Machine ?ct_Machine ?ne_Machine ?tt_Machine ?cr_Machine ?ck_Machine ?cv_Machine_MOST_PLACES ?nf_Machine_own_letters ?nf_Machine_own_rows ?nf_Machine_own_kinds ?ka_Machine_MOST_PLACES ?kg_Machine_MOST_PLACES ?a_Machine_init ?i_Machine_init ?l_Machine_init ?e_Machine_init ?k_Machine_init ?a_Machine_rows ?i_Machine_rows ?l_Machine_rows ?e_Machine_rows ?k_Machine_rows ?a_Machine_kinds ?i_Machine_kinds ?l_Machine_kinds ?e_Machine_kinds ?k_Machine_kinds ?a_Machine_takes ?i_Machine_takes ?l_Machine_takes ?e_Machine_takes ?k_Machine_takes ?a_Machine_len ?i_Machine_len ?l_Machine_len ?e_Machine_len ?k_Machine_len ?a_Machine_contains ?i_Machine_contains ?l_Machine_contains ?e_Machine_contains ?k_Machine_contains ?a_Machine_eq ?i_Machine_eq ?l_Machine_eq ?e_Machine_eq ?k_Machine_eq ?a_Machine_repr ?i_Machine_repr ?l_Machine_repr ?e_Machine_repr ?k_Machine_repr ?a_Machine_or ?i_Machine_or ?l_Machine_or ?e_Machine_or ?k_Machine_or ?a_Machine_sub ?i_Machine_sub ?l_Machine_sub ?e_Machine_sub ?k_Machine_sub ?a_Machine_letters ?pg_Machine_letters ?pt_Machine_letters ?pr_Machine_letters ?l_Machine_letters ?e_Machine_letters ?k_Machine_letters ?a_Desk ?pg_Desk ?hd_Desk ?po_Desk ?sa_Desk ?mk_Desk ?kc_Desk ?ca_Desk ?cg_Desk ?ct_Desk ?ne_Desk ?tt_Desk ?cr_Desk ?ck_Desk ?nf_Desk_one ?nf_Desk_other ?nf_Desk_own_past ?a_Desk_init ?i_Desk_init ?l_Desk_init ?e_Desk_init ?k_Desk_init ?a_Desk_put ?i_Desk_put ?l_Desk_put ?e_Desk_put ?k_Desk_put ?a_Desk_named ?i_Desk_named ?l_Desk_named ?e_Desk_named ?k_Desk_named ?a_Desk_put_named ?i_Desk_put_named ?l_Desk_put_named ?e_Desk_put_named ?k_Desk_put_named ?a_Desk_turn ?i_Desk_turn ?l_Desk_turn ?e_Desk_turn ?k_Desk_turn ?a_Desk_lead ?i_Desk_lead ?l_Desk_lead ?e_Desk_lead ?k_Desk_lead ?a_Desk_swap ?i_Desk_swap ?l_Desk_swap ?e_Desk_swap ?k_Desk_swap ?a_Desk_undo ?i_Desk_undo ?l_Desk_undo ?e_Desk_undo ?k_Desk_undo ?a_Desk_iadd ?i_Desk_iadd ?l_Desk_iadd ?e_Desk_iadd ?k_Desk_iadd ?a_Desk_isub ?i_Desk_isub ?l_Desk_isub ?e_Desk_isub ?k_Desk_isub ?a_Desk_getitem ?i_Desk_getitem ?l_Desk_getitem ?e_Desk_getitem ?k_Desk_getitem ?a_Desk_contains ?i_Desk_contains ?l_Desk_contains ?e_Desk_contains ?k_Desk_contains ?a_Desk_len ?i_Desk_len ?l_Desk_len ?e_Desk_len ?k_Desk_len ?a_InvalidText ?lc_InvalidText ?ii_InvalidText ?li_InvalidText ?ei_InvalidText ?lk_InvalidText ?v2_InvalidText ?fl_InvalidText ?lcc_InvalidText ?su_InvalidText ?se_InvalidText ?sb_InvalidText ?op_InvalidText ?tp_InvalidText ?sa_InvalidText ?ti_InvalidText ?kc_InvalidText ?ex_InvalidText ?ty_InvalidText ?ga_InvalidText ?gg_InvalidText ?hdc_InvalidText ?ss_InvalidText ?nf_InvalidText_value ?a_InvalidLetter ?lc_InvalidLetter ?ii_InvalidLetter ?li_InvalidLetter ?ei_InvalidLetter ?lk_InvalidLetter ?v2_InvalidLetter ?fl_InvalidLetter ?lcc_InvalidLetter ?su_InvalidLetter ?se_InvalidLetter ?sb_InvalidLetter ?op_InvalidLetter ?tp_InvalidLetter ?sa_InvalidLetter ?ti_InvalidLetter ?kc_InvalidLetter ?ex_InvalidLetter ?ty_InvalidLetter ?ga_InvalidLetter ?gg_InvalidLetter ?hdc_InvalidLetter ?ss_InvalidLetter ?nf_InvalidLetter_value ?a_InvalidPlace ?lc_InvalidPlace ?ii_InvalidPlace ?li_InvalidPlace ?ei_InvalidPlace ?lk_InvalidPlace ?v2_InvalidPlace ?fl_InvalidPlace ?lcc_InvalidPlace ?su_InvalidPlace ?se_InvalidPlace ?sb_InvalidPlace ?op_InvalidPlace ?tp_InvalidPlace ?sa_InvalidPlace ?ti_InvalidPlace ?kc_InvalidPlace ?ex_InvalidPlace ?ty_InvalidPlace ?ga_InvalidPlace ?gg_InvalidPlace ?hdc_InvalidPlace ?ss_InvalidPlace ?nf_InvalidPlace_value ?a_InvalidMachine ?lc_InvalidMachine ?ii_InvalidMachine ?li_InvalidMachine ?ei_InvalidMachine ?lk_InvalidMachine ?v2_InvalidMachine ?fl_InvalidMachine ?lcc_InvalidMachine ?su_InvalidMachine ?se_InvalidMachine ?sb_InvalidMachine ?op_InvalidMachine ?tp_InvalidMachine ?sa_InvalidMachine ?ti_InvalidMachine ?kc_InvalidMachine ?ex_InvalidMachine ?ty_InvalidMachine ?ga_InvalidMachine ?gg_InvalidMachine ?hdc_InvalidMachine ?ss_InvalidMachine ?nf_InvalidMachine_value ?a_InvalidCommand ?lc_InvalidCommand ?ii_InvalidCommand ?li_InvalidCommand ?ei_InvalidCommand ?lk_InvalidCommand ?v2_InvalidCommand ?fl_InvalidCommand ?lcc_InvalidCommand ?su_InvalidCommand ?se_InvalidCommand ?sb_InvalidCommand ?op_InvalidCommand ?tp_InvalidCommand ?sa_InvalidCommand ?ti_InvalidCommand ?kc_InvalidCommand ?ex_InvalidCommand ?ty_InvalidCommand ?ga_InvalidCommand ?gg_InvalidCommand ?hdc_InvalidCommand ?ss_InvalidCommand ?nf_InvalidCommand_value ?a_OtherLetters ?lc_OtherLetters ?ii_OtherLetters ?li_OtherLetters ?ei_OtherLetters ?lk_OtherLetters ?v2_OtherLetters ?fl_OtherLetters ?lcc_OtherLetters ?su_OtherLetters ?se_OtherLetters ?sb_OtherLetters ?op_OtherLetters ?tp_OtherLetters ?sa_OtherLetters ?ti_OtherLetters ?kc_OtherLetters ?ex_OtherLetters ?ty_OtherLetters ?ga_OtherLetters ?gg_OtherLetters ?hdc_OtherLetters ?ss_OtherLetters ?nf_OtherLetters_one ?nf_OtherLetters_other ?a_NotComeTo ?lc_NotComeTo ?ii_NotComeTo ?li_NotComeTo ?ei_NotComeTo ?lk_NotComeTo ?v2_NotComeTo ?fl_NotComeTo ?lcc_NotComeTo ?su_NotComeTo ?se_NotComeTo ?sb_NotComeTo ?op_NotComeTo ?tp_NotComeTo ?sa_NotComeTo ?ti_NotComeTo ?kc_NotComeTo ?ex_NotComeTo ?ty_NotComeTo ?ga_NotComeTo ?gg_NotComeTo ?hdc_NotComeTo ?ss_NotComeTo ?nf_NotComeTo_place ?a_NothingToUndo ?lc_NothingToUndo ?ii_NothingToUndo ?li_NothingToUndo ?ei_NothingToUndo ?lk_NothingToUndo ?v2_NothingToUndo ?fl_NothingToUndo ?lcc_NothingToUndo ?su_NothingToUndo ?se_NothingToUndo ?sb_NothingToUndo ?op_NothingToUndo ?tp_NothingToUndo ?sa_NothingToUndo ?ti_NothingToUndo ?kc_NothingToUndo ?ex_NothingToUndo ?ty_NothingToUndo ?ga_NothingToUndo ?gg_NothingToUndo ?hdc_NothingToUndo ?ss_NothingToUndo ?xa_InvalidText ?xn_InvalidText ?xt_InvalidText ?xm_InvalidText ?xa_InvalidLetter ?xn_InvalidLetter ?xt_InvalidLetter ?xm_InvalidLetter ?xa_InvalidPlace ?xn_InvalidPlace ?xt_InvalidPlace ?xm_InvalidPlace ?xa_InvalidMachine ?xn_InvalidMachine ?xt_InvalidMachine ?xm_InvalidMachine ?xa_InvalidCommand ?xn_InvalidCommand ?xt_InvalidCommand ?xm_InvalidCommand ?xa_OtherLetters ?xn_OtherLetters ?xt_OtherLetters ?xm_OtherLetters ?xa_NotComeTo ?xn_NotComeTo ?xt_NotComeTo ?xm_NotComeTo ?xa_NothingToUndo ?xn_NothingToUndo ?xt_NothingToUndo ?xm_NothingToUndo ?a_PartsError ?a_StateError ?et ?kg ?sfM ?sfD ?nrM ?nst ?z_TypeError ?z_abs ?z_all ?z_any ?z_bool ?z_divmod ?z_enumerate ?z_int ?z_isinstance ?z_len ?z_list ?z_max ?z_min ?z_property ?z_range ?z_repr ?z_set ?z_sorted ?z_str ?z_super ?z_tuple ?z_zip ?y_SMALL ?y_MOST_LETTERS ?a_WHICH ?l_WHICH)
  (case a_is_integer => k_is); (case l_is_integer => k_is); (case e_is_integer => k_is); (case k_is_integer => k_is); (case a_is_count => k_is); (case l_is_count => k_is); (case e_is_count => k_is); (case k_is_count => k_is); (case a_is_list => k_is); (case l_is_list => k_is); (case e_is_list => k_is); (case k_is_list => k_is); (case a_is_text => k_is); (case l_is_text => k_is); (case e_is_text => k_is); (case k_is_text => k_is); (case a_are_letters => k_is); (case l_are_letters => k_is); (case e_are_letters => k_is); (case k_are_letters => k_is); (case a_is_text_over => k_is); (case l_is_text_over => k_is); (case e_is_text_over => k_is); (case k_is_text_over => k_is); (case a_want_few => k_is); (case l_want_few => k_is); (case e_want_few => k_is); (case k_want_few => k_is); (case a_is_row => k_is); (case l_is_row => k_is); (case e_is_row => k_is); (case k_is_row => k_is); (case a_want_machine => k_is); (case l_want_machine => k_is); (case e_want_machine => k_is); (case k_want_machine => k_is); (case a_met_from => k_is); (case l_met_from => k_is); (case e_met_from => k_is); (case k_met_from => k_is); (case a_want_text => k_is); (case l_want_text => k_is); (case e_want_text => k_is); (case k_want_text => k_is); (case a_want_letter => k_is); (case l_want_letter => k_is); (case e_want_letter => k_is); (case k_want_letter => k_is); (case a_want_place => k_is); (case l_want_place => k_is); (case e_want_place => k_is); (case k_want_place => k_is); (case a_want_same => k_is); (case l_want_same => k_is); (case e_want_same => k_is); (case k_want_same => k_is); (case a_want_right => k_is); (case l_want_right => k_is); (case e_want_right => k_is); (case k_want_right => k_is); (case a_led => k_is); (case l_led => k_is); (case e_led => k_is); (case k_led => k_is); (case a_is_taken => k_is); (case l_is_taken => k_is); (case e_is_taken => k_is); (case k_is_taken => k_is); (case a_is_so => k_is); (case l_is_so => k_is); (case e_is_so => k_is); (case k_is_so => k_is); (case a_paired_by => k_is); (case l_paired_by => k_is); (case e_paired_by => k_is); (case k_paired_by => k_is); (case a_lists_of => k_is); (case l_lists_of => k_is); (case e_lists_of => k_is); (case k_lists_of => k_is); (case a_want_listed => k_is); (case l_want_listed => k_is); (case e_want_listed => k_is); (case k_want_listed => k_is); (case a_turned_by => k_is); (case l_turned_by => k_is); (case e_turned_by => k_is); (case k_turned_by => k_is); (case a_turned => k_is); (case l_turned => k_is); (case e_turned => k_is); (case k_turned => k_is); (case a_redirected => k_is); (case l_redirected => k_is); (case e_redirected => k_is); (case k_redirected => k_is); (case a_law_pot => k_is); (case l_law_pot => k_is); (case e_law_pot => k_is); (case k_law_pot => k_is); (case a_law_draw => k_is); (case l_law_draw => k_is); (case e_law_draw => k_is); (case k_law_draw => k_is); (case a_law_pick => k_is); (case l_law_pick => k_is); (case e_law_pick => k_is); (case k_law_pick => k_is); (case a_law_met => k_is); (case l_law_met => k_is); (case e_law_met => k_is); (case k_law_met => k_is); (case a_law_lines => k_is); (case l_law_lines => k_is); (case e_law_lines => k_is); (case k_law_lines => k_is); (case a_law_machine => k_is); (case l_law_machine => k_is); (case e_law_machine => k_is); (case k_law_machine => k_is); (case a_law_led => k_is); (case l_law_led => k_is); (case e_law_led => k_is); (case k_law_led => k_is); (case a_law_flipped => k_is); (case l_law_flipped => k_is); (case e_law_flipped => k_is); (case k_law_flipped => k_is); (case a_law_heard => k_is); (case l_law_heard => k_is); (case e_law_heard => k_is); (case k_law_heard => k_is); (case a_law_joined => k_is); (case l_law_joined => k_is); (case e_law_joined => k_is); (case k_law_joined => k_is); (case a_law_cut => k_is); (case l_law_cut => k_is); (case e_law_cut => k_is); (case k_law_cut => k_is); (case a_law_stands => k_is); (case l_law_stands => k_is); (case e_law_stands => k_is); (case k_law_stands => k_is); (case a_law_refusals_right => k_is); (case l_law_refusals_right => k_is); (case e_law_refusals_right => k_is); (case k_law_refusals_right => k_is); (case a_law_change => k_is); (case l_law_change => k_is); (case e_law_change => k_is); (case k_law_change => k_is); (case a_law_right => k_is); (case l_law_right => k_is); (case e_law_right => k_is); (case k_law_right => k_is); (case a_law => k_is); (case l_law => k_is); (case e_law => k_is); (case k_law => k_is); (case a_Machine => k_is); (case pg_Machine => k_is); (case hd_Machine => k_is); (case po_Machine => k_is); (case sa_Machine => k_is); (case mk_Machine => k_is); (case kc_Machine => k_is); (case ca_Machine => k_is); (case cg_Machine => k_is); (case ct_Machine => k_is); (case ne_Machine => k_is); (case tt_Machine => k_is); (case cr_Machine => k_is); (case ck_Machine => k_is); (case cv_Machine_MOST_PLACES => k_is); (case nf_Machine_own_letters => k_is); (case nf_Machine_own_rows => k_is); (case nf_Machine_own_kinds => k_is); (case ka_Machine_MOST_PLACES => k_is); (case kg_Machine_MOST_PLACES => k_is); (case a_Machine_init => k_is); (case i_Machine_init => k_is); (case l_Machine_init => k_is); (case e_Machine_init => k_is); (case k_Machine_init => k_is); (case a_Machine_rows => k_is); (case i_Machine_rows => k_is); (case l_Machine_rows => k_is); (case e_Machine_rows => k_is); (case k_Machine_rows => k_is); (case a_Machine_kinds => k_is); (case i_Machine_kinds => k_is); (case l_Machine_kinds => k_is); (case e_Machine_kinds => k_is); (case k_Machine_kinds => k_is); (case a_Machine_takes => k_is); (case i_Machine_takes => k_is); (case l_Machine_takes => k_is); (case e_Machine_takes => k_is); (case k_Machine_takes => k_is); (case a_Machine_len => k_is); (case i_Machine_len => k_is); (case l_Machine_len => k_is); (case e_Machine_len => k_is); (case k_Machine_len => k_is); (case a_Machine_contains => k_is); (case i_Machine_contains => k_is); (case l_Machine_contains => k_is); (case e_Machine_contains => k_is); (case k_Machine_contains => k_is); (case a_Machine_eq => k_is); (case i_Machine_eq => k_is); (case l_Machine_eq => k_is); (case e_Machine_eq => k_is); (case k_Machine_eq => k_is); (case a_Machine_repr => k_is); (case i_Machine_repr => k_is); (case l_Machine_repr => k_is); (case e_Machine_repr => k_is); (case k_Machine_repr => k_is); (case a_Machine_or => k_is); (case i_Machine_or => k_is); (case l_Machine_or => k_is); (case e_Machine_or => k_is); (case k_Machine_or => k_is); (case a_Machine_sub => k_is); (case i_Machine_sub => k_is); (case l_Machine_sub => k_is); (case e_Machine_sub => k_is); (case k_Machine_sub => k_is); (case a_Machine_letters => k_is); (case pg_Machine_letters => k_is); (case pt_Machine_letters => k_is); (case pr_Machine_letters => k_is); (case l_Machine_letters => k_is); (case e_Machine_letters => k_is); (case k_Machine_letters => k_is); (case a_Desk => k_is); (case pg_Desk => k_is); (case hd_Desk => k_is); (case po_Desk => k_is); (case sa_Desk => k_is); (case mk_Desk => k_is); (case kc_Desk => k_is); (case ca_Desk => k_is); (case cg_Desk => k_is); (case ct_Desk => k_is); (case ne_Desk => k_is); (case tt_Desk => k_is); (case cr_Desk => k_is); (case ck_Desk => k_is); (case nf_Desk_one => k_is); (case nf_Desk_other => k_is); (case nf_Desk_own_past => k_is); (case a_Desk_init => k_is); (case i_Desk_init => k_is); (case l_Desk_init => k_is); (case e_Desk_init => k_is); (case k_Desk_init => k_is); (case a_Desk_put => k_is); (case i_Desk_put => k_is); (case l_Desk_put => k_is); (case e_Desk_put => k_is); (case k_Desk_put => k_is); (case a_Desk_named => k_is); (case i_Desk_named => k_is); (case l_Desk_named => k_is); (case e_Desk_named => k_is); (case k_Desk_named => k_is); (case a_Desk_put_named => k_is); (case i_Desk_put_named => k_is); (case l_Desk_put_named => k_is); (case e_Desk_put_named => k_is); (case k_Desk_put_named => k_is); (case a_Desk_turn => k_is); (case i_Desk_turn => k_is); (case l_Desk_turn => k_is); (case e_Desk_turn => k_is); (case k_Desk_turn => k_is); (case a_Desk_lead => k_is); (case i_Desk_lead => k_is); (case l_Desk_lead => k_is); (case e_Desk_lead => k_is); (case k_Desk_lead => k_is); (case a_Desk_swap => k_is); (case i_Desk_swap => k_is); (case l_Desk_swap => k_is); (case e_Desk_swap => k_is); (case k_Desk_swap => k_is); (case a_Desk_undo => k_is); (case i_Desk_undo => k_is); (case l_Desk_undo => k_is); (case e_Desk_undo => k_is); (case k_Desk_undo => k_is); (case a_Desk_iadd => k_is); (case i_Desk_iadd => k_is); (case l_Desk_iadd => k_is); (case e_Desk_iadd => k_is); (case k_Desk_iadd => k_is); (case a_Desk_isub => k_is); (case i_Desk_isub => k_is); (case l_Desk_isub => k_is); (case e_Desk_isub => k_is); (case k_Desk_isub => k_is); (case a_Desk_getitem => k_is); (case i_Desk_getitem => k_is); (case l_Desk_getitem => k_is); (case e_Desk_getitem => k_is); (case k_Desk_getitem => k_is); (case a_Desk_contains => k_is); (case i_Desk_contains => k_is); (case l_Desk_contains => k_is); (case e_Desk_contains => k_is); (case k_Desk_contains => k_is); (case a_Desk_len => k_is); (case i_Desk_len => k_is); (case l_Desk_len => k_is); (case e_Desk_len => k_is); (case k_Desk_len => k_is); (case a_InvalidText => k_is); (case lc_InvalidText => k_is); (case ii_InvalidText => k_is); (case li_InvalidText => k_is); (case ei_InvalidText => k_is); (case lk_InvalidText => k_is); (case v2_InvalidText => rfl); (case fl_InvalidText => first | rfl | decide +kernel); (case lcc_InvalidText => k_is); (case su_InvalidText => ks_is); (case se_InvalidText => k_is); (case sb_InvalidText => k_is); (case op_InvalidText => k_is); (case tp_InvalidText => decide +kernel); (case sa_InvalidText => k_is); (case ti_InvalidText => k_is); (case kc_InvalidText => k_is); (case ex_InvalidText => k_is); (case ty_InvalidText => k_is); (case ga_InvalidText => k_is); (case gg_InvalidText => k_is); (case hdc_InvalidText => k_is); (case ss_InvalidText => k_is); (case nf_InvalidText_value => k_is); (case a_InvalidLetter => k_is); (case lc_InvalidLetter => k_is); (case ii_InvalidLetter => k_is); (case li_InvalidLetter => k_is); (case ei_InvalidLetter => k_is); (case lk_InvalidLetter => k_is); (case v2_InvalidLetter => rfl); (case fl_InvalidLetter => first | rfl | decide +kernel); (case lcc_InvalidLetter => k_is); (case su_InvalidLetter => ks_is); (case se_InvalidLetter => k_is); (case sb_InvalidLetter => k_is); (case op_InvalidLetter => k_is); (case tp_InvalidLetter => decide +kernel); (case sa_InvalidLetter => k_is); (case ti_InvalidLetter => k_is); (case kc_InvalidLetter => k_is); (case ex_InvalidLetter => k_is); (case ty_InvalidLetter => k_is); (case ga_InvalidLetter => k_is); (case gg_InvalidLetter => k_is); (case hdc_InvalidLetter => k_is); (case ss_InvalidLetter => k_is); (case nf_InvalidLetter_value => k_is); (case a_InvalidPlace => k_is); (case lc_InvalidPlace => k_is); (case ii_InvalidPlace => k_is); (case li_InvalidPlace => k_is); (case ei_InvalidPlace => k_is); (case lk_InvalidPlace => k_is); (case v2_InvalidPlace => rfl); (case fl_InvalidPlace => first | rfl | decide +kernel); (case lcc_InvalidPlace => k_is); (case su_InvalidPlace => ks_is); (case se_InvalidPlace => k_is); (case sb_InvalidPlace => k_is); (case op_InvalidPlace => k_is); (case tp_InvalidPlace => decide +kernel); (case sa_InvalidPlace => k_is); (case ti_InvalidPlace => k_is); (case kc_InvalidPlace => k_is); (case ex_InvalidPlace => k_is); (case ty_InvalidPlace => k_is); (case ga_InvalidPlace => k_is); (case gg_InvalidPlace => k_is); (case hdc_InvalidPlace => k_is); (case ss_InvalidPlace => k_is); (case nf_InvalidPlace_value => k_is); (case a_InvalidMachine => k_is); (case lc_InvalidMachine => k_is); (case ii_InvalidMachine => k_is); (case li_InvalidMachine => k_is); (case ei_InvalidMachine => k_is); (case lk_InvalidMachine => k_is); (case v2_InvalidMachine => rfl); (case fl_InvalidMachine => first | rfl | decide +kernel); (case lcc_InvalidMachine => k_is); (case su_InvalidMachine => ks_is); (case se_InvalidMachine => k_is); (case sb_InvalidMachine => k_is); (case op_InvalidMachine => k_is); (case tp_InvalidMachine => decide +kernel); (case sa_InvalidMachine => k_is); (case ti_InvalidMachine => k_is); (case kc_InvalidMachine => k_is); (case ex_InvalidMachine => k_is); (case ty_InvalidMachine => k_is); (case ga_InvalidMachine => k_is); (case gg_InvalidMachine => k_is); (case hdc_InvalidMachine => k_is); (case ss_InvalidMachine => k_is); (case nf_InvalidMachine_value => k_is); (case a_InvalidCommand => k_is); (case lc_InvalidCommand => k_is); (case ii_InvalidCommand => k_is); (case li_InvalidCommand => k_is); (case ei_InvalidCommand => k_is); (case lk_InvalidCommand => k_is); (case v2_InvalidCommand => rfl); (case fl_InvalidCommand => first | rfl | decide +kernel); (case lcc_InvalidCommand => k_is); (case su_InvalidCommand => ks_is); (case se_InvalidCommand => k_is); (case sb_InvalidCommand => k_is); (case op_InvalidCommand => k_is); (case tp_InvalidCommand => decide +kernel); (case sa_InvalidCommand => k_is); (case ti_InvalidCommand => k_is); (case kc_InvalidCommand => k_is); (case ex_InvalidCommand => k_is); (case ty_InvalidCommand => k_is); (case ga_InvalidCommand => k_is); (case gg_InvalidCommand => k_is); (case hdc_InvalidCommand => k_is); (case ss_InvalidCommand => k_is); (case nf_InvalidCommand_value => k_is); (case a_OtherLetters => k_is); (case lc_OtherLetters => k_is); (case ii_OtherLetters => k_is); (case li_OtherLetters => k_is); (case ei_OtherLetters => k_is); (case lk_OtherLetters => k_is); (case v2_OtherLetters => rfl); (case fl_OtherLetters => first | rfl | decide +kernel); (case lcc_OtherLetters => k_is); (case su_OtherLetters => ks_is); (case se_OtherLetters => k_is); (case sb_OtherLetters => k_is); (case op_OtherLetters => k_is); (case tp_OtherLetters => decide +kernel); (case sa_OtherLetters => k_is); (case ti_OtherLetters => k_is); (case kc_OtherLetters => k_is); (case ex_OtherLetters => k_is); (case ty_OtherLetters => k_is); (case ga_OtherLetters => k_is); (case gg_OtherLetters => k_is); (case hdc_OtherLetters => k_is); (case ss_OtherLetters => k_is); (case nf_OtherLetters_one => k_is); (case nf_OtherLetters_other => k_is); (case a_NotComeTo => k_is); (case lc_NotComeTo => k_is); (case ii_NotComeTo => k_is); (case li_NotComeTo => k_is); (case ei_NotComeTo => k_is); (case lk_NotComeTo => k_is); (case v2_NotComeTo => rfl); (case fl_NotComeTo => first | rfl | decide +kernel); (case lcc_NotComeTo => k_is); (case su_NotComeTo => ks_is); (case se_NotComeTo => k_is); (case sb_NotComeTo => k_is); (case op_NotComeTo => k_is); (case tp_NotComeTo => decide +kernel); (case sa_NotComeTo => k_is); (case ti_NotComeTo => k_is); (case kc_NotComeTo => k_is); (case ex_NotComeTo => k_is); (case ty_NotComeTo => k_is); (case ga_NotComeTo => k_is); (case gg_NotComeTo => k_is); (case hdc_NotComeTo => k_is); (case ss_NotComeTo => k_is); (case nf_NotComeTo_place => k_is); (case a_NothingToUndo => k_is); (case lc_NothingToUndo => k_is); (case ii_NothingToUndo => k_is); (case li_NothingToUndo => k_is); (case ei_NothingToUndo => k_is); (case lk_NothingToUndo => k_is); (case v2_NothingToUndo => rfl); (case fl_NothingToUndo => first | rfl | decide +kernel); (case lcc_NothingToUndo => k_is); (case su_NothingToUndo => ks_is); (case se_NothingToUndo => k_is); (case sb_NothingToUndo => k_is); (case op_NothingToUndo => k_is); (case tp_NothingToUndo => decide +kernel); (case sa_NothingToUndo => k_is); (case ti_NothingToUndo => k_is); (case kc_NothingToUndo => k_is); (case ex_NothingToUndo => k_is); (case ty_NothingToUndo => k_is); (case ga_NothingToUndo => k_is); (case gg_NothingToUndo => k_is); (case hdc_NothingToUndo => k_is); (case ss_NothingToUndo => k_is); (case xa_InvalidText => k_is); (case xn_InvalidText => k_is); (case xt_InvalidText => k_is); (case xm_InvalidText => k_is); (case xa_InvalidLetter => k_is); (case xn_InvalidLetter => k_is); (case xt_InvalidLetter => k_is); (case xm_InvalidLetter => k_is); (case xa_InvalidPlace => k_is); (case xn_InvalidPlace => k_is); (case xt_InvalidPlace => k_is); (case xm_InvalidPlace => k_is); (case xa_InvalidMachine => k_is); (case xn_InvalidMachine => k_is); (case xt_InvalidMachine => k_is); (case xm_InvalidMachine => k_is); (case xa_InvalidCommand => k_is); (case xn_InvalidCommand => k_is); (case xt_InvalidCommand => k_is); (case xm_InvalidCommand => k_is); (case xa_OtherLetters => k_is); (case xn_OtherLetters => k_is); (case xt_OtherLetters => k_is); (case xm_OtherLetters => k_is); (case xa_NotComeTo => k_is); (case xn_NotComeTo => k_is); (case xt_NotComeTo => k_is); (case xm_NotComeTo => k_is); (case xa_NothingToUndo => k_is); (case xn_NothingToUndo => k_is); (case xt_NothingToUndo => k_is); (case xm_NothingToUndo => k_is); (case a_PartsError => k_is); (case a_StateError => k_is); (case et => kernel_rfl); (case kg => kernel_rfl); (case sfM => kernel_rfl); (case sfD => kernel_rfl); (case nrM => kernel_rfl); (case nst => kernel_rfl); (case z_TypeError => k_is); (case z_abs => k_is); (case z_all => k_is); (case z_any => k_is); (case z_bool => k_is); (case z_divmod => k_is); (case z_enumerate => k_is); (case z_int => k_is); (case z_isinstance => k_is); (case z_len => k_is); (case z_list => k_is); (case z_max => k_is); (case z_min => k_is); (case z_property => k_is); (case z_range => k_is); (case z_repr => k_is); (case z_set => k_is); (case z_sorted => k_is); (case z_str => k_is); (case z_super => k_is); (case z_tuple => k_is); (case z_zip => k_is); (case y_SMALL => k_is); (case y_MOST_LETTERS => k_is); (case a_WHICH => k_is); (case l_WHICH => k_is)
  (case m0 => kernel_rfl)
  (case m1 => kernel_rfl)
  (case m2 => kernel_rfl)
  (case nT0 => kernel_rfl)
  (case nT1 => kernel_rfl)
  (case nT2 => kernel_rfl)
  (case hC0 => kernel_rfl)
  (case hC1 => kernel_rfl)
  (case hC2 => kernel_rfl)
  (case h01 => kernel_rfl)
  (case h02 => kernel_rfl)
  (case h12 => kernel_rfl)
  )
