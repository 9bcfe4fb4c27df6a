import PyProof.Rows.All
import KE.OsRunLaw
import KE.KNestM
import PySem.Challenge.RW_missedparts_k23_whole_sums_kept
import Wide.All
import OpenK.AllK
import Wide.FinOn
import HandS.ForMost
import HandS.SortKw
import HandS.EndTab
import HandS.IsInst
import HandS.StrMore
import HandS.TupLe
import HandS.WideBits
import HandS.Walk
import HandS.Deep
import HandS.ListItems
import HandS.Conv
import HandS.More
import PyProof.ReprRoads
import KE.SortKeyHeap
import KE.KDictCopyH
import PyProof.ReprLen
import KE.DataMinKey
import HandS.Set
import HandS.Strs
import HandS.Property
import HandS.OwnEq
import HandS.FStr
import OpenK.KOps
import OpenK.KMeth
import KE.GoesZip
import KE.GoesMore
import KE.GoesEnum
import KE.KIsAll
import HandS.Replace
import HandS.ClsMeth
import PyProof.StrLawsFirst
import HandS.MakeKwOnly
import KE.KOpsOwn
import HandS.Exc
import HandS.ExcInit
import KE.KExcSuper
import KE.KEqNest
import PyProof.ReprReads
import HandS.SetBool
import HandS.TupSets
import HandS.TryOnly
import HandS.ExcOwn
import HandS.WordsExc
import HandS.ExcField
import HandS.ExcIs
import PyProof.ExcBaseAll.ValueError
import PyProof.ExcBaseAll.RuntimeError
import PyProof.ExcBaseAll.ArithmeticError
import HandS.Lambda
import HandS.Nested
import HandS.TryMany
import HandS.TupLen
import KE.KeyNested
import KE.SortData
import KE.KDictSum
import KE.KDictPairs
import KE.KDictKeyed
import PyProof.EqKinds
import KE.KDictZip
import KE.KDictItemsList
import KE.KDictDisplayH
import PyProof.DictTable
import HandS.DictComp
import PyProof.ReprHeadsEmpty
import HandS.TupAny
import HandS.Style
import PyProof.ListStr
import PyProof.Rows.SortShellAny
set_option Elab.async false
set_option linter.all false
set_option maxRecDepth 100000
set_option maxHeartbeats 4000000
namespace L3
open PySem PySem.W PySem.Calls PyProof.Rows HeadRun
/-- a program without some of its top's statements -/
def dropAt (is : List Nat) : Nat → List Stmt → List Stmt
  | _, [] => []
  | n, s :: r => match is.contains n with
    | true => dropAt is (n + 1) r
    | false => s :: dropAt is (n + 1) r
def viewAt (p : Program) (is : List Nat) : Program := { p with main := { p.main with body := dropAt is 0 p.main.body } }
/-- what a hook looks at, off the tree -/
def kOb (as : List Addr) (s : SharedT) : List (Option Obj) := as.map (getT s)
theorem kOb_ok {K : Params → Frag} {as : List Addr} {e : ∀ P, as = (K P).map (·.1)} (s : SharedT) : kOb as s = (kHook K as e).obs s.abs := List.map_congr_left fun a _ => getT_eq s a
theorem map_three {α β γ δ : Type} {o : Option α} {f : α → β} {g : α → γ} {h : α → δ} {b : β} {c : γ} {d : δ}
    (x : o.map f = some b) (y : o.map g = some c) (z : o.map h = some d) : o.map (fun s => (f s, g s, h s)) = some (b, c, d) := by
  cases o with
  | none => cases x
  | some s => cases x; cases y; cases z; rfl
/-- the state behind the top -/
noncomputable abbrev endOf (p : Program) (M : Nat) (w : World) (os : OsState) : Option SharedT := endF (stepQ (denQ tabQ) p w) M p w os
/-- the head by three runs, each checked apart -/
theorem head3 {r : OpenRow} {p q : Program} {H : Hook} {ob : SharedT → H.α} {M : Nat} {loose : List PySem.Str} {d : DefRec} {kwd : List (PySem.Str × PySem.Expr)} (hr : r.prog = p) (hrec : r.toRowW.records = [])
    (ho : ∀ s : SharedT, ob s = H.obs s.abs)
    (e : opening p = plainProg p.main.scope.names) (f : ∀ s, fenceModules? p s = some s)
    (rA : ∀ w os, (endOf p M w os).map (fun s => looksF p (boot_heap w.params) s.abs) = some true)
    (rB : ∀ w os, (endOf p M w os).map (fun s => seenQ q loose (importedModules p.main.body) (fun s => xlAt q [] s && recOk [] s) s.abs) = some (openGood q loose))
    (rC : ∀ w os, (endOf p M w os).map ob = some (H.val w))
    (hdef : defOf q r.name = some (d, kwd)) (hp : r.prog.theDef r.name = some (d.params, d.body, d.scope)) (hk : kwWritten? d.params.kwonlyargs d.params.kw_defaults = some kwd)
    (hwr : (!r.writes || r.records.isEmpty) = true) (k1 : r.wellSaid = true) (ok : (chainsOk q && opensWell r.prog && (frees r.toRowW && r.within.isEmpty)) = true) (hb : r.prog.bare) (hw : r.toRowW.promised)
    (call : WalkO q loose (XL q []) H.says r.toRowW d kwd fun f vs => PySem.call f vs) : r.Holds := by
  subst hr
  refine head_any (M := M) (ob := ob) ho e f (fun w os => ?_) hdef hp hk hwr k1 ok hb hw call
  have z := map_three (rA w os) (rB w os) (rC w os)
  rw [hrec]
  exact z
theorem map_pair {α β γ : Type} {o : Option α} {f : α → β × γ} {b : β} {c : γ} (x : o.map (fun s => (f s).1) = some b) (y : o.map (fun s => (f s).2) = some c) : o.map f = some (b, c) := by
  cases o with
  | none => cases x
  | some s =>
    have x' : (f s).1 = b := Option.some.inj x
    have y' : (f s).2 = c := Option.some.inj y
    exact congrArg some (Prod.ext x' y')
theorem map_l {α β γ : Type} {o : Option α} {f : α → β} {g : α → γ} {b : β} {c : γ} (x : o.map (fun s => (f s, g s)) = some (b, c)) : o.map f = some b := by
  cases o with
  | none => cases x
  | some s => exact congrArg some (Prod.mk.inj (Option.some.inj x)).1
theorem map_r {α β γ : Type} {o : Option α} {f : α → β} {g : α → γ} {b : β} {c : γ} (x : o.map (fun s => (f s, g s)) = some (b, c)) : o.map g = some c := by
  cases o with
  | none => cases x
  | some s => exact congrArg some (Prod.mk.inj (Option.some.inj x)).2
/-- the looks at the view, one of them -/
noncomputable abbrev seenAt (p q : Program) (l : List PySem.Str) (s : SharedT) := seenQ q l (importedModules p.main.body) (fun s => xlAt q [] s && recOk [] s) s.abs
end L3
namespace Lw
open PySem PySem.W PyProof.Rows HeadRun L3
noncomputable abbrev pz : Program := PySem.Challenge.pw_missedparts_k23_whole_sums_kept
noncomputable def qz : Program := viewAt pz [1, 12, 20, 23, 44, 56]
def lz : List PySem.Str := [PySem.Str.ofString "Sum"]
theorem hdA : ∀ w os, (endOf pz 10990 w os).map (fun s => (looksF pz (boot_heap w.params) s.abs, (seenAt pz qz lz s).2.2.2.2.2.2.2.1)) = some (true, (wideGood qz)) := by
  intro w os; kernel_rfl
theorem hdB1 : ∀ w os, (endOf pz 10990 w os).map (fun s => (seenAt pz qz lz s).1) = some (expectedOf qz) := by
  intro w os; kernel_rfl
theorem hdB3 : ∀ w os, (endOf pz 10990 w os).map (fun s => (seenAt pz qz lz s).2.2.1) = some true := by
  intro w os; kernel_rfl
theorem hdB4 : ∀ w os, (endOf pz 10990 w os).map (fun s => (seenAt pz qz lz s).2.2.2.1) = some true := by
  intro w os; kernel_rfl
theorem hdB6 : ∀ w os, (endOf pz 10990 w os).map (fun s => (seenAt pz qz lz s).2.2.2.2.2.1) = some (plainGoodE qz (looseW qz lz)) := by
  intro w os; kernel_rfl
theorem hdB : ∀ w os, (endOf pz 10990 w os).map (fun s => ((seenAt pz qz lz s).2.1, ((seenAt pz qz lz s).2.2.2.2.1, ((seenAt pz qz lz s).2.2.2.2.2.2.1, (seenAt pz qz lz s).2.2.2.2.2.2.2.2)))) = some (bltViewBooted, ((pinGoodD (drecsOf qz)), ((plainGoodD qz lz), (clsGoodW qz lz)))) := by
  intro w os; kernel_rfl
theorem hdS : ∀ w os, (endOf pz 10990 w os).map (fun s => seenAt pz qz lz s) = some (openGood qz lz) := fun w os =>
  (map_pair (hdB1 w os) (map_pair (map_l (hdB w os)) (map_pair (hdB3 w os) (map_pair (hdB4 w os) (map_pair (map_l (map_r (hdB w os))) (map_pair (hdB6 w os) (map_pair (map_l (map_r (map_r (hdB w os)))) (map_pair (map_r (hdA w os)) (map_r (map_r (map_r (hdB w os))))))))))))
local macro_rules | `(tactic| o_head ($f $k $a $e)) => `(tactic| (
  refine' head3 (p := pz) (q := qz) (loose := lz) (M := 10990) (H := $f $k $a $e) (ob := kOb $a) rfl rfl (fun s => kOb_ok s) ?e ?f (fun w os => map_l (hdA w os)) hdS ?rC (by rfl) (by rfl) (by rfl) (by rfl) (by first | assumption | decide +kernel) (by decide +kernel) ⟨rfl, rfl, rfl, rfl, rfl, by decide +kernel⟩ ?hw ?hc
  (case e => kernel_rfl)
  (case f => intro s; kernel_rfl)
  (case rC => intro w os; kernel_rfl)))
open_top hd for PySem.Challenge.rw_missedparts_k23_whole_sums_kept
end Lw
namespace L3
open PySem PySem.Spec PyProof.Rows L2
/-- as FnOk, where no guard stands around -/
structure FnOkG (P : Program) (w : World) (K : PySem.W.Frag) (mg : Str → Option Value) (base : Heap) (CX : CXT) (k : Nat) (f : Addr) (fd : FuncData) (ps : List Str) (sp : Sp) : Prop where
  len : ∀ vs H Q E, sp vs H Q E → vs.length = ps.length
  run : ∀ (A : Around) (outer : List Env) (s : Shared) (H : Hp) (args : Args) (us : List Value) (vs : List V) (Q : VK) (E : XK), Room k A → A.guards = some [] → Env0 P w K mg base A outer s H → BindsTo s fd args (ps.zip us) → Vals vs us → sp vs H Q E →
    codeAny (model P w) A (.call (.ref f) args) (CR CX outer P w H s Q E) s
theorem FnOkG.of {P : Program} {w : World} {K : PySem.W.Frag} {mg : Str → Option Value} {base : Heap} {CX : CXT} {k : Nat} {f : Addr} {fd : FuncData} {ps : List Str} {sp : Sp} (F : FnOk P w K mg base CX k f fd ps sp) : FnOkG P w K mg base CX k f fd ps sp :=
  ⟨F.len, fun A outer s H args us vs Q E hr _ => F.run A outer s H args us vs Q E hr⟩
theorem FnOkG.mono {P : Program} {w : World} {K : PySem.W.Frag} {mg : Str → Option Value} {base : Heap} {CX : CXT} {j k : Nat} {f : Addr} {fd : FuncData} {ps : List Str} {sp : Sp} (F : FnOkG P w K mg base CX j f fd ps sp) (h : j ≤ k) : FnOkG P w K mg base CX k f fd ps sp :=
  ⟨F.len, fun A outer s H args us vs Q E hr => F.run A outer s H args us vs Q E (hr.mono h)⟩
section
variable {P : Program} {w : World} {K : PySem.W.Frag} {mg : Str → Option Value} {base : Heap}
theorem fn_ofG {CX : CXT} {k : Nat} {f : Addr} {name qual : Str} {params : Arguments} {body : List Stmt} {scope : Scope} {dV kV doc pm cdv ct oc : Value} {an od : Option Addr}
    {osl : Array (Option Value)} {N ps : List Str} {sp : Sp} (lk : K.lookup f = some ⟨oc, od, .func (PySem.W.fnOf name qual params body scope dV kV doc pm an cdv ct), osl⟩) (hcd : PySem.W.codeIn K cdv qual = true) (S : FnScope N ps scope)
    (len : ∀ vs H Q E, sp vs H Q E → vs.length = ps.length)
    (hbody : ∀ (A : Around) (outer : List Env) (s : Shared) (H : Hp) (vs : List V) (Q : VK) (E : XK), Room k (A.deeper (envOfC qual scope s.heap.objs.size f cdv)) → A.guards = some [] → sp vs H Q E →
      ∃ t, PSs (cxOf CX P w K mg base N qual scope f cdv A outer s H E) body t ∧ t { nx := fun _ H' => Q .non H', rt := Q } (L2.start N vs) H) :
    FnOkG P w K mg base CX (k + 1) f (PySem.W.fnOf name qual params body scope dV kV doc pm an cdv ct) ps sp := by
  refine ⟨len, fun A outer s H args us vs Q E hr hg e0 hb r hsp => ?_⟩
  exact LamX.run_ofS lk hcd S hr e0 hb r (len _ _ _ _ hsp) fun hr' => hbody A outer s H vs Q E hr' hg hsp
theorem okG {x qual : Str} {st : Stmt} {f : Addr} {fd : FuncData} {N ps : List Str} {k : Nat} {sp : Sp} (F : Fun K x qual st f fd) (S : FnScope N ps (defScope st)) (len : ∀ vs H Q E, sp vs H Q E → vs.length = ps.length)
    (hbody : ∀ (cdv : Value) (A : Around) (outer : List Env) (s : Shared) (H : Hp) (vs : List V) (Q : VK) (E : XK), Room k (A.deeper (envOfC qual (defScope st) s.heap.objs.size f cdv)) → A.guards = some [] → sp vs H Q E →
      ∃ t, PSs (cxOf CX0 P w K mg base N qual (defScope st) f cdv A outer s H E).nox (defBody st) t ∧ t { nx := fun _ H' => Q .non H', rt := Q } (L2.start N vs) H) : FnOkG P w K mg base CX0 (k + 1) f fd ps sp := by
  obtain ⟨oc, od, kV, doc, pm, an, cdv, ct, osl, rfl, lk, hcd⟩ := F.ex
  refine fn_ofG lk hcd S len fun A outer s H vs Q E hr hg hsp => ?_
  obtain ⟨t, h, q⟩ := hbody cdv A outer s H vs Q E hr hg hsp
  exact ⟨t, h.nox, q⟩
end
section
variable {X : Cx} {CX : CXT} {k : Nat} {f : Addr} {fd : FuncData} {ps ks : List Str} {sp : Sp} {E : XK} {x : Str} {p pos : Pos} {e : Expr} {es : List Expr} {kws : List Keyword} {t tk : TA} {g : List Value → List Value → List Value} {gV : List V → List V → List V}
theorem run_fnG {pins : List (Addr × Obj)} {σ : L2.St} {H : Hp} {s : Shared} {Q : VK} {us ws : List Value} {vs : List V} {kw : List (Str × Value)} (F : FnOkG X.prog X.w X.K X.mg X.base CX k f fd ps sp) (hr : Room k X.A) (hG : X.A.guards = some []) (hx : Passes CX X E)
    (I : Inv X pins σ H s) (hb : BindsTo s fd ⟨us, kw⟩ (ps.zip ws)) (r : Vals vs ws) (h : sp vs H Q E) : wpAny (model X.prog X.w) X.A (call (.ref f) us kw) (EP X pins σ Q) X.xe s := by
  refine wpAny_call (codeAny_mono (F.run X.A X.stack s H ⟨us, kw⟩ ws vs Q E hr hG I.env0 hb r h) fun r s' hq => ?_)
  cases r with
  | error e => exact hx pins σ H s e s' I hq
  | ok fl =>
    cases fl with
    | ret u => exact I.after hq
    | next => exact False.elim hq
    | brk => exact False.elim hq
    | cont => exact False.elim hq
/-- f(e, ..) -/
theorem pe_callG (F : FnOkG X.prog X.w X.K X.mg X.base CX k f fd ps sp) (hr : Room k X.A) (hG : X.A.guards = some []) (hg : Gl X x) (hm : X.mg x = some (.ref f)) (hk : PySem.W.keepIn X.K (.ref f) = true) (hb : L2.Binds X.K fd ps []) (hx : Passes CX X E)
    (ha : PA X (e :: es) t) (hdb : (x == ("__debug__" : Str)) = false := by decide) (he : starEach (e :: es) X.env = (false, eval e X.env) :: starEach es X.env := by rfl) (hpl : (backTo pos (starEach es X.env)).any (·.1) = false := by rfl) :
    PE X (.Call (.Name x p) (e :: es) [] pos) (tCall sp [] E t) := by
  refine ⟨fun pins s σ H Q I h => ?_⟩
  refine wpAny_Call_Name_kw (ld_glob I hg hm ?_ hdb)
  refine PySem.W.callWith_K (h₀ := X.base) I.ok.mod.kin hk (thn (ha.run pos pins s σ H _ I h) fun us s1 ⟨vs, H1, I1, r, q⟩ => ⟨I1.kIn, ?_⟩) he hpl
  have q : sp (vs ++ []) H1 Q E := q
  rw [List.append_nil] at q
  have hl : (us ++ []).length = ps.length := by rw [List.append_nil, ← r.length]; exact F.len _ _ _ _ q
  exact run_fnG F hr hG hx I1 (hb s1 us I1.kIn hl) (by rw [List.append_nil]; exact r) q
end
end L3
namespace L3
open PySem PySem.Spec PyProof.Rows L2
/-- a text by its codes -/
abbrev tS (l : List Nat) : Str := ⟨l.toArray⟩
abbrev tx (l : List Nat) : V := .str (tS l)
theorem tS_len (l : List Nat) : (tS l).length = l.length := by show l.toArray.size = _; simp
theorem tS_inj {a b : List Nat} (h : tS a = tS b) : a = b := by
  have h2 : a.toArray = b.toArray := congrArg Str.cps h
  simpa using congrArg Array.toList h2
theorem tS_app (a b : List Nat) : tS a ++ tS b = tS (a ++ b) := by
  show (⟨a.toArray ++ b.toArray⟩ : Str) = _
  simp
theorem tx_inj {a b : List Nat} (h : tx a = tx b) : a = b := tS_inj (V.str.inj h)
theorem tx_dec (a b : List Nat) : decide (tx a = tx b) = decide (a = b) := by
  by_cases e : a = b
  · subst e; simp
  · rw [decide_eq_false e, decide_eq_false fun h => e (tx_inj h)]
section
variable {X : Cx}
theorem op_addT : OpR X (binaryOp .Add) (fun x y H Q => ∃ a b, x = tx a ∧ y = tx b ∧ a.length + b.length ≤ sizeLine ∧ Q (tx (a ++ b)) H) := by
  intro pins s σ H x y v u Q I rx ry h
  obtain ⟨a, b, rfl, rfl, hz, q⟩ := h
  exact op_add_str pins s σ H _ _ v u Q I rx ry ⟨_, _, rfl, rfl, by rw [tS_len, tS_len]; exact hz, by rw [tS_app]; exact q⟩
end
end L3
namespace L3
open PySem PySem.Spec PyProof.Rows L2
mutual
theorem dp_noDict {K : PySem.W.Frag} {H : Hp} : ∀ {v : V} {d : PyData}, Dp K H v d → d.hasDict = false
  | _, .none, _ => by simp only [PyData.hasDict]
  | _, .bool _, _ => by simp only [PyData.hasDict]
  | _, .int _, _ => by simp only [PyData.hasDict]
  | _, .str _, _ => by simp only [PyData.hasDict]
  | _, .list ds, h => by
    cases h with
    | lst hs ha => simp only [PyData.hasDict]; exact dpAll_noDict ha
  | _, .tuple ds, h => by
    cases h with
    | tup hs ha => simp only [PyData.hasDict]; exact dpAll_noDict ha
  | _, .dict _, h => by cases h
theorem dpAll_noDict {K : PySem.W.Frag} {H : Hp} : ∀ {vs : List V} {ds : List PyData}, DpAll K H vs ds → PyData.hasDictAll ds = false
  | _, [], _ => by simp only [PyData.hasDictAll]
  | _, d :: ds, h => by
    cases h with
    | cons h1 h2 => simp only [PyData.hasDictAll, dp_noDict h1, dpAll_noDict h2, Bool.or_self]
end
theorem len_toL (acc : Array Value) : acc.toList.length = acc.size := by simp
section
variable {X : Cx}
/-- repr(x) of data: none, bools, ints, texts, lists, tuples -/
def rRepr (K : PySem.W.Frag) : List V → Hp → VK → Prop := fun xs H Q => ∃ (x : V) (d : PyData), xs = [x] ∧ Dp K H x d ∧ d.showable = true ∧ d.shown.length ≤ sizeLine ∧ d.depth ≤ 50 ∧ Q (.str d.shown) H
theorem call_reprD {k : Nat} (hr : Room k X.A) (hG : X.A.guards = some []) : CallR X (.builtin "repr") (rRepr X.K) := by
  intro pins s σ H xs us Q I r h
  obtain ⟨x, d, rfl, hd, hs, hz, hdp, q⟩ := h
  obtain ⟨u, rfl, rx⟩ := vals1 r
  have hu := hr.units
  cases hd with
  | non => cases rx; exact P.repr_of_none ⟨.str _, H, I.tok _, ⟨_, rfl⟩, q⟩
  | bl b => cases rx; exact P.repr_of_bool ⟨.str _, H, I.tok _, ⟨_, rfl⟩, q⟩
  | int i =>
    obtain ⟨t, rfl⟩ := rx
    have hs' : i.natAbs.log2 < 1920 := by simpa [PyData.showable] using hs
    exact P.repr_of_int hs' ⟨.str _, H, I.tok _, ⟨_, rfl⟩, q⟩
  | str z =>
    obtain ⟨t, rfl⟩ := rx
    exact P.repr_of_str ⟨.str _, H, I.tok _, ⟨_, rfl⟩, q⟩ hz
  | @lst a xs ds hq ha =>
    cases rx
    obtain ⟨as, hR⟩ := Dp.reads I (.list ds) (.ref a) (.ref a) (.lst hq ha) rfl
    refine repr_of_reads' hR hs (PyData.noDict_hsm (dp_noDict (K := X.K) (H := H) (.lst hq ha))) hG (by omega) (fun _ _ e => e) (fun h' t tk hk => ?_) hz
    exact ⟨.str _, H, I.kept hk, ⟨_, rfl⟩, q⟩
  | @tup a xs ds hq ha =>
    cases rx
    obtain ⟨as, hR⟩ := Dp.reads I (.tuple ds) (.ref a) (.ref a) (.tup hq ha) rfl
    refine repr_of_reads' hR hs (PyData.noDict_hsm (dp_noDict (K := X.K) (H := H) (.tup hq ha))) hG (by omega) (fun _ _ e => e) (fun h' t tk hk => ?_) hz
    exact ⟨.str _, H, I.kept hk, ⟨_, rfl⟩, q⟩
/-- list(text) -/
theorem call_listT (hc : X.calm = true) : CallR X (.type "list") (fun xs H Q => ∃ l, xs = [tx l] ∧ l.length ≤ sizeLine ∧ ∀ p, H p = none → Q (.ref p) (upd H p (.lst (l.map fun c => tx [c])))) := by
  intro pins s σ H xs us Q I r h
  obtain ⟨l, rfl, hz, q⟩ := h
  obtain ⟨u, rfl, rx⟩ := vals1 r
  obtain ⟨t, rfl⟩ := rx
  refine call_list_str (I.ok.hd hc) (tS l) t (fun h' tk acc c hk hS hacc => ?_) (by show l.toArray.size ≤ _; simpa using hz)
  have hl : acc.size = l.length := by rw [hacc.1]; simp [tS]
  have hv : Vals (l.map fun c => tx [c]) acc.toList := vals_of_at (by rw [List.length_map, len_toL, hl]) fun j x w h1 h2 => by
    obtain ⟨c, t, e1, e2⟩ := hacc.2 j w (by rw [← Array.getElem?_toList]; exact h2)
    have e3 : l[j]? = some c := by simpa [tS] using e1
    rw [List.getElem?_map, e3] at h1
    cases h1
    subst e2
    exact ⟨t, rfl⟩
  exact ⟨.ref s.heap.objs.size, upd H s.heap.objs.size (.lst (l.map fun c => tx [c])), I.laid (t' := tk) hk (Nat.le_refl _)
    (show ObjOk X.prog X.w _ _ _ (.lst (l.map fun c => tx [c])) from ⟨by rw [List.length_map]; exact hz, acc.toList, c, hv, by rw [Array.toArray_toList]; exact hS⟩), rfl, q _ (I.hok.fresh (Nat.le_refl _))⟩
end
end L3
namespace L3
open PySem PySem.Spec PyProof.Rows L2
end L3
namespace L3
open PySem PySem.Spec PyProof.Rows L2
end L3
namespace L3
open PySem PySem.Spec PyProof.Rows L2
end L3
namespace L3
open PySem PySem.Spec PyProof.Rows L2
end L3
namespace L3
open PySem PySem.Spec PyProof.Rows L2
/-- the tracked heap at the law's call: the script (locked), where it is not written, and the tables -/
def H0 (K : PySem.W.Frag) (a : Addr) (vs : List Value) (ns : List Int) (cs : List (Addr × Addr)) : Hp := fun b =>
  if b = a then (if (K.lookup a).isSome then none else some (.frz { cls := .type "list", data := .seq vs.toArray } (.lst (ns.map V.int)))) else if b ∈ cs.map (·.2) then some (.tbl #[]) else none
theorem law_callG {P : Program} {w : World} {K : PySem.W.Frag} {mg mb : Str → Option Value} {k : Nat} {fa a : Addr} {cs : List (Addr × Addr)} {fd : FuncData} {x : Str} {sp : Sp} {s₁ : Shared} {vs : List Value} {ns : List Int}
    (KX : K.In s₁.heap) (hns : s₁.heap.Ns mainGlobals mg) (hb : s₁.heap.Ns builtinsNs mb) (hbb : ∀ x : Str, x ≠ "__name__" → mb x = bootBuiltins x) (hlim : s₁.heap.NoLimit) (hg : s₁.gens = #[])
    (hT : ∀ p ∈ cs, s₁.heap.get? p.2 = some { cls := .none, data := .fields #[] }) (nT : ∀ p ∈ cs, K.lookup p.2 = none) (C : ∀ p ∈ cs, PySem.W.CodeHd s₁.heap p.1 p.2)
    (hbm : ∃ (bm : Addr) (ob : Obj), mg "__builtins__" = some (.ref bm) ∧ bm ≠ builtinsNs ∧ s₁.heap.get? bm = some ob ∧ ob.cls = .type "module" ∧ ob.dict = some builtinsNs ∧ ob.data = .plain)
    (ha : s₁.heap.get? a = some { cls := .type "list", data := .seq vs.toArray }) (hi : IntsAre vs ns) (hl : ns.length ≤ sizeLine) (hr : Room k callerA)
    (F : ∀ base : Heap, K.In base → base.Ns mainGlobals mg → (∀ p ∈ cs, LamX.TabB base mg p.1 p.2) → FnOkG P w K mg base CX0 k fa fd [x] sp) (hbind : L2.Binds K fd [x] [])
    (hsp : ∀ H : Hp, (∀ p ∈ cs, H p.2 = some (.tbl #[])) → SqL K H a (ns.map V.int) → sp [.ref a] H (fun v _ => v = .bl true) fun _ _ _ => False) :
    codeAny (model P w) callerA (.call (.ref fa) ⟨[.ref a], []⟩) (fun r s' => r = .ok (.ret (.bool true)) ∧ OldK s₁.heap s'.heap ∧ s'.os = s₁.os ∧ AllBare s'.gens) s₁ := by
  have rv := vals_ints hi
  have lenV := hi.length
  have isT : ∀ b : Addr, b ∈ cs.map (·.2) → s₁.heap.get? b = some { cls := .none, data := .fields #[] } := fun b hb => by
    obtain ⟨p, hp, e⟩ := List.mem_map.mp hb
    rw [← e]; exact hT p hp
  have aT : a ∉ cs.map (·.2) := fun z => by
    have q := isT a z
    rw [ha] at q
    cases congrArg Obj.data (Option.some.inj q)
  have memT : ∀ p ∈ cs, p.2 ∈ cs.map (·.2) := fun p hp => List.mem_map.mpr ⟨p, hp, rfl⟩
  -- the three cases of H0
  have hcase : ∀ b, (b = a ∧ H0 K a vs ns cs b = none ∧ (K.lookup a).isSome = true) ∨ (b = a ∧ K.lookup a = none ∧ H0 K a vs ns cs b = some (.frz { cls := .type "list", data := .seq vs.toArray } (.lst (ns.map V.int)))) ∨
      (b ≠ a ∧ b ∈ cs.map (·.2) ∧ H0 K a vs ns cs b = some (.tbl #[])) ∨ (b ≠ a ∧ b ∉ cs.map (·.2) ∧ H0 K a vs ns cs b = none) := fun b => by
    unfold H0
    by_cases e : b = a
    · rw [if_pos e]
      cases hk : K.lookup a with
      | some o => exact .inl ⟨e, rfl, rfl⟩
      | none => exact .inr (.inl ⟨e, rfl, rfl⟩)
    · rw [if_neg e]
      by_cases e2 : b ∈ cs.map (·.2)
      · rw [if_pos e2]; exact .inr (.inr (.inl ⟨e, e2, rfl⟩))
      · rw [if_neg e2]; exact .inr (.inr (.inr ⟨e, e2, rfl⟩))
  have tabAt : ∀ p ∈ cs, H0 K a vs ns cs p.2 = some (.tbl #[]) := fun p hp => by
    rcases hcase p.2 with ⟨e, _⟩ | ⟨e, _⟩ | ⟨_, _, z⟩ | ⟨_, n, _⟩
    · exact absurd (e ▸ memT p hp) aT
    · exact absurd (e ▸ memT p hp) aT
    · exact z
    · exact absurd (memT p hp) n
  have free : ∀ {b : Addr} {o : Obj}, s₁.heap.get? b = some o → (∀ vs n, o.data ≠ .seq vs n) → o.data ≠ .fields #[] → H0 K a vs ns cs b = none := fun {b o} e h1 h2 => by
    rcases hcase b with ⟨_, z, _⟩ | ⟨e', _⟩ | ⟨_, e', _⟩ | ⟨_, _, z⟩
    · exact z
    · rw [e', ha] at e
      cases e
      exact absurd rfl (h1 _ _)
    · rw [isT b e'] at e
      cases e
      exact absurd rfl h2
    · exact z
  have nsK : ∀ {b : Addr} {m : Str → Option Value}, s₁.heap.Ns b m → (hidT s₁.heap (H0 K a vs ns cs)).Ns b m := fun {b m} ⟨o, es, ep, e, d, r⟩ =>
    ⟨o, es, ep, hidT_get e (free e (fun vs n z => by rw [d] at z; cases z) fun z => by rw [d] at z; cases z), d, r⟩
  have hKb : K.In (hidT s₁.heap (H0 K a vs ns cs)) := fun b o e => hidT_get (KX b o e) (by
    rcases hcase b with ⟨_, z, _⟩ | ⟨e', n, _⟩ | ⟨_, e', _⟩ | ⟨_, _, z⟩
    · exact z
    · rw [e', n] at e; cases e
    · obtain ⟨p, hp, ep⟩ := List.mem_map.mp e'
      rw [← ep, nT p hp] at e
      cases e
    · exact z)
  have hM : L2.Mod K mg (hidT s₁.heap (H0 K a vs ns cs)) := ⟨hKb, nsK hns, ⟨mb, nsK hb, hbb⟩, let ⟨mc, h1, h2⟩ := hlim; ⟨mc, nsK h1, h2⟩⟩
  have TB : ∀ p ∈ cs, LamX.TabB (hidT s₁.heap (H0 K a vs ns cs)) mg p.1 p.2 := fun p hp => by
    have hTp := hT p hp
    refine ⟨?_, ?_, fun z => ?_⟩
    · obtain ⟨o, us, file, tf, flags, tg, inF, text, tt, e1, r1, r2, r3, r⟩ := C p hp
      refine ⟨o, us, file, tf, flags, tg, inF, text, tt, hidT_get e1 (free e1 (fun vs n z => by rw [r2] at z; cases z) fun z => ?_), r1, r2, r3, r⟩
      rw [r2] at z
      cases z
      simp at r3
    · obtain ⟨bm, ob, b1, b2, b3, b4, b5, b6⟩ := hbm
      refine ⟨bm, ob, b1, b2, fun q => ?_, fun q => ?_, hidT_get b3 (free b3 (fun vs n z => by rw [b6] at z; cases z) fun z => by rw [b6] at z; cases z), b4, b5, b6⟩
      · obtain ⟨o, es, ep, e, hd, _⟩ := hns
        rw [q, e] at b3
        cases b3
        rw [hd] at b6
        cases b6
      · rw [q, hTp] at b3
        cases b3
        cases b6
    · obtain ⟨o, es, ep, e, hd, _⟩ := hns
      rw [z, hTp] at e
      cases e
      cases hd
  have hok : HOk P w (H0 K a vs ns cs) s₁.heap := fun b u z => by
    rcases hcase b with ⟨_, n, _⟩ | ⟨e', _, q⟩ | ⟨_, e', q⟩ | ⟨_, _, n⟩
    · rw [n] at z; cases z
    · rw [q] at z
      cases z
      rw [e']
      exact ⟨ha, by rw [List.length_map]; exact hl, vs, _, rv, ha⟩
    · rw [q] at z
      cases z
      exact isT b e'
    · rw [n] at z; cases z
  have hS : SqL K (H0 K a vs ns cs) a (ns.map V.int) := by
    rcases hcase a with ⟨_, _, hk⟩ | ⟨_, _, q⟩ | ⟨n, _⟩ | ⟨n, _⟩
    · obtain ⟨o, hk⟩ := Option.isSome_iff_exists.mp hk
      have e := KX a o hk
      rw [ha] at e
      cases e
      exact .inr ⟨_, vs.toArray, _, hk, rfl, rfl, rfl, by rw [List.size_toArray, lenV]; exact hl, by simpa using rv⟩
    · exact .inl (.inr ⟨_, q⟩)
    · exact absurd rfl n
    · exact absurd rfl n
  have e0 : Env0 P w K mg (hidT s₁.heap (H0 K a vs ns cs)) callerA [] s₁ (H0 K a vs ns cs) := ⟨rfl, hM, fun b o e => of_hidT e, Nat.le_of_eq (hidT_size _ _), trivial, fun b hb => absurd (show b ∈ ([] : List Addr) from hb) (by simp), hok, .of_eq hg⟩
  refine codeAny_mono ((F _ hKb (nsK hns) TB).run callerA [] s₁ (H0 K a vs ns cs) ⟨[.ref a], []⟩ [.ref a] [.ref a] _ _ hr rfl e0 (hbind s₁ [.ref a] KX rfl) (.cons rfl .nil) (hsp _ tabAt hS)) fun r s' h => ?_
  cases r with
  | error e => exact (show False from h).elim
  | ok fl =>
    cases fl with
    | next => exact False.elim h
    | brk => exact False.elim h
    | cont => exact False.elim h
    | ret u =>
      obtain ⟨v, H', os, bare, un, hok', r', q⟩ := h
      have q' : v = .bl true := q
      subst q'
      obtain rfl : u = Value.bool true := r'
      have key : ∀ b o, b ∉ cs.map (·.2) → s₁.heap.get? b = some o → s'.heap.get? b = some o := fun b o nb e => by
        rcases hcase b with ⟨_, n, _⟩ | ⟨_, _, z⟩ | ⟨_, e', _⟩ | ⟨_, _, n⟩
        · exact un.keep b o e n (fun z => absurd (show b ∈ ([] : List Addr) from z) (by simp)) (by simp)
        · have z2 := un.frzs b _ _ z
          obtain ⟨e1, _⟩ := hok b _ z
          obtain ⟨e2, _⟩ := hok' b _ z2
          rw [e] at e1
          cases e1
          exact e2
        · exact absurd e' nb
        · exact un.keep b o e n (fun z => absurd (show b ∈ ([] : List Addr) from z) (by simp)) (by simp)
      have grown : ∀ p ∈ cs, ∃ more : Array Value, s'.heap.get? p.2 = some { cls := .none, data := .fields more } := fun p hp => by
        obtain ⟨more, z⟩ := un.tbls p.2 #[] (tabAt p hp)
        exact ⟨_, hok' p.2 _ z⟩
      refine ⟨rfl, ⟨fun b o e => ?_, fun b o e => ?_⟩, os, bare⟩
      · by_cases hb : b ∈ cs.map (·.2)
        · obtain ⟨p, hp, ep⟩ := List.mem_map.mp hb
          obtain ⟨more, hm⟩ := grown p hp
          rw [← ep] at e ⊢
          rw [hT p hp] at e
          cases e
          exact .inr (.inl ⟨((C p hp).tab (hT p hp)).isCodeTable, rfl, #[], more, rfl, by rw [Array.empty_append]; exact hm⟩)
        · exact .inl (key b o hb e)
      · by_cases hb : b ∈ cs.map (·.2)
        · obtain ⟨p, hp, ep⟩ := List.mem_map.mp hb
          obtain ⟨more, hm⟩ := grown p hp
          rw [← ep]
          exact ⟨_, hm⟩
        · exact ⟨o, key b o hb e⟩
end L3
namespace L3
open PySem PySem.Spec PyProof.Rows L2
theorem same_upd {H : Hp} {p : Addr} {o : HO} (h : H p = none) : Same H (upd H p o) := fun b x e => by
  rw [upd_ne (ne_of_none e h)]
  exact e
theorem same_up {H H' : Hp} {p : Addr} {o : HO} (s : Same H H') (h : H p = none) : Same H (upd H' p o) := fun b x e => by
  rw [upd_ne (ne_of_none e h)]
  exact s b x e
/-- a comprehension: R of the heap, A of the list so far -/
theorem lc_gen {J : It} {n : Nat} {G : Hp → Prop} {Y : Nat → Hp → V → Hp → Prop} (w : Walk J n G Y) {g : TG} {tt : TT} {te : TE} {vs : List Nat} {σ : L2.St} {H1 : Hp} {D : Addr} {Qd : Hp → Prop} (R : Hp → Prop) (A : Nat → List V → Prop) (hz : n ≤ sizeLine) (hA : ∀ i acc, A i acc → acc.length ≤ i)
    (h0 : A 0 []) (r0 : R (upd H1 D (.lst []))) (r1 : ∀ H x, R H → R (upd H D x)) (hG : ∀ H, R H → G H)
    (hs : ∀ i x H H' acc (C : VK) (N : Hp → Prop), i < n → R H → H D = some (.lst acc) → A i acc → Y i H x H' → (∀ v H4, R H4 → H4 D = some (.lst acc) → A (i + 1) (acc ++ [v]) → C v H4) → (∀ H3, R H3 → H3 D = some (.lst acc) → A (i + 1) acc → N H3) →
      g x (wipe σ vs) H' fun σ2 H2 => wipe σ2 vs = wipe σ vs ∧ tt σ2 H2 fun b H3 => if b = true then te σ2 H3 C else N H3)
    (hd : ∀ H xs, R H → H D = some (.lst xs) → A n xs → Qd H) :
    ∃ W : Nat → Nat → Hp → Prop, (∃ m, W 0 m (upd H1 D (.lst []))) ∧ ∀ i m H, W i m H →
      (J.stop i H ∧ Qd H) ∨ (J.go i H ∧ ∃ Nx : Hp → Prop, (∀ H', Nx H' → ∃ m', m' < m ∧ W (i + 1) m' H') ∧ ∀ x H', J.yld i H x H' → g x (wipe σ vs) H' fun σ2 H2 => wipe σ2 vs = wipe σ vs ∧ tt σ2 H2 fun b H3 =>
        if b = true then te σ2 H3 fun y H4 => ∃ acc, H4 D = some (.lst acc) ∧ acc.length < sizeLine ∧ Nx (upd H4 D (.lst (acc ++ [y]))) else Nx H3) := by
  refine lc_it w (fun i H => R H ∧ ∃ acc, H D = some (.lst acc) ∧ A i acc) ⟨r0, [], upd_same, h0⟩ (fun i H _ p => hG H p.1) (fun i x H H' hi p y => ?_) fun H p => ?_
  · obtain ⟨rH, acc, hD, ha⟩ := p
    refine hs i x H H' acc _ _ hi rH hD ha y (fun v H4 r4 d4 a4 => ⟨acc, d4, ?_, r1 _ _ r4, _, upd_same, a4⟩) (fun H3 r3 d3 a3 => ⟨r3, acc, d3, a3⟩)
    have := hA i acc ha
    omega
  · obtain ⟨rH, acc, hD, ha⟩ := p
    exact hd H acc rH hD ha
/-- no test -/
theorem yes_te {te : TE} {σ : L2.St} {H : Hp} {C : VK} {N : Hp → Prop} (h : te σ H C) : tYes σ H fun b H3 => if b = true then te σ H3 C else N H3 := by
  show (if true = true then te σ H C else N H)
  rw [if_pos rfl]
  exact h
section
variable {X : Cx}
theorem call_lenT : CallR X (.builtin "len") (fun xs H Q => ∃ l, xs = [tx l] ∧ l.length ≤ sizeLine ∧ Q (.int (l.length : Int)) H) := by
  intro pins s σ H xs us Q I r h
  obtain ⟨l, rfl, hz, q⟩ := h
  exact call_len_str pins s σ H _ us Q I r ⟨_, rfl, by rw [tS_len]; exact hz, by rw [tS_len]; exact q⟩
theorem ix_tx : IxR X (fun x y H Q => ∃ (l : List Nat) (i c : Nat), x = tx l ∧ y = .int (i : Int) ∧ l.length ≤ sizeLine ∧ l[i]? = some c ∧ Q (tx [c]) H) := by
  intro value slice pins s σ H x y v u Q I rx ry h hs
  obtain ⟨l, i, c, rfl, rfl, hz, he, q⟩ := h
  exact ix_str value slice pins s σ H _ _ v u Q I rx ry ⟨_, _, c, rfl, rfl, by rw [tS_len]; exact hz, atI_nat he, q⟩ hs
end
theorem walk_tx {l : List Nat} : Walk (Its (tS l)) l.length (fun _ => True) (fun i H v H' => H' = H ∧ ∃ c, l[i]? = some c ∧ v = tx [c]) := by
  have e : (tS l).cps.size = l.length := tS_len l
  refine ⟨fun i _ hi _ => ?_, fun _ _ => ?_, fun i H v H' _ _ y => ?_⟩
  · show i < (tS l).cps.size
    rw [e]; exact hi
  · show (tS l).cps.size ≤ l.length
    rw [e]; exact Nat.le_refl _
  · obtain ⟨h1, c, h2, h3⟩ := y
    exact ⟨h1, c, by simpa [tS] using h2, h3⟩
end L3
namespace L3
open PySem PySem.Spec PyProof.Rows L2
/-- what repr asks of data -/
structure Shw (d : PyData) : Prop where
  s : d.showable = true
  z : d.shown.length ≤ sizeLine
  p : d.depth ≤ 50
def dTx (ls : List (List Nat)) : List PyData := ls.map fun l => PyData.str (tS l)
theorem dp_txs {K : PySem.W.Frag} {H : Hp} : ∀ ls : List (List Nat), DpAll K H (ls.map tx) (dTx ls)
  | [] => .nil
  | l :: ls => .cons (.str _) (dp_txs ls)
def k1 {α : Type} : List α → List α → List α
  | [], [w] => [w]
  | _, _ => []
def k2 {α : Type} : List α → List α → List α
  | [], [w, v] => [v, w]
  | _, _ => []
end L3
namespace L3
open PySem PySem.Spec PyProof.Rows L2
end L3
namespace L3
open PySem PySem.Spec PyProof.Rows L2
end L3
namespace L3
open PySem PySem.Spec PyProof.Rows L2
theorem sq_put {K : PySem.W.Frag} {a D : Addr} {xs : List V} {H : Hp} {o : HO} (h : SqL K H a xs) (n : a ≠ D) : SqL K (upd H D o) a xs := by
  rcases h with (h | ⟨o', h⟩) | h
  · exact .inl (.inl (by rw [upd_ne n]; exact h))
  · exact .inl (.inr ⟨o', by rw [upd_ne n]; exact h⟩)
  · exact .inr h
theorem sq_new {K : PySem.W.Frag} {a D : Addr} {xs : List V} {H : Hp} {o : HO} (h : SqL K H a xs) (n : H D = none) : SqL K (upd H D o) a xs := by
  rcases h with (h | ⟨o', h⟩) | h
  · exact .inl (.inl (same_upd n _ _ h))
  · exact .inl (.inr ⟨o', same_upd n _ _ h⟩)
  · exact .inr h
theorem sq_same {K : PySem.W.Frag} {a : Addr} {xs : List V} {H H' : Hp} (h : SqL K H a xs) (s : Same H H') : SqL K H' a xs := by
  rcases h with (h | ⟨o', h⟩) | h
  · exact .inl (.inl (s _ _ h))
  · exact .inl (.inr ⟨o', s _ _ h⟩)
  · exact .inr h
/-- what a statement's ends have in common -/
theorem join {t : TS} {D : Ends} {σ : L2.St} {H : Hp} (R : L2.St → Hp → Prop) (h : ∀ N : L2.St → Hp → Prop, (∀ σ' H', R σ' H' → N σ' H') → t { D with nx := N } σ H) (k : ∀ σ' H', R σ' H' → D.nx σ' H') : t D σ H := h D.nx k
theorem seq_to {t u : TS} {D : Ends} {σ : L2.St} {H : Hp} (h : t { D with nx := u D } σ H) : tSeq t u D σ H := h
end L3
namespace L3
open PySem PySem.Spec PyProof.Rows L2
/-- a comprehension: R of the heap, A of the list so far; R asked of heaps that hold the list -/
theorem lc_gen2 {J : It} {n : Nat} {G : Hp → Prop} {Y : Nat → Hp → V → Hp → Prop} (w : Walk J n G Y) {g : TG} {tt : TT} {te : TE} {vs : List Nat} {σ : L2.St} {H1 : Hp} {D : Addr} {Qd : Hp → Prop} (R : Hp → Prop) (A : Nat → List V → Prop) (hz : n ≤ sizeLine) (hA : ∀ i acc, A i acc → acc.length ≤ i)
    (h0 : A 0 []) (r0 : R (upd H1 D (.lst []))) (r1 : ∀ H acc acc', H D = some (.lst acc) → R H → R (upd H D (.lst acc'))) (hG : ∀ H, R H → G H)
    (hs : ∀ i x H H' acc (C : VK) (N : Hp → Prop), i < n → R H → H D = some (.lst acc) → A i acc → Y i H x H' → (∀ v H4, R H4 → H4 D = some (.lst acc) → A (i + 1) (acc ++ [v]) → C v H4) → (∀ H3, R H3 → H3 D = some (.lst acc) → A (i + 1) acc → N H3) →
      g x (wipe σ vs) H' fun σ2 H2 => wipe σ2 vs = wipe σ vs ∧ tt σ2 H2 fun b H3 => if b = true then te σ2 H3 C else N H3)
    (hd : ∀ H xs, R H → H D = some (.lst xs) → A n xs → Qd H) :
    ∃ W : Nat → Nat → Hp → Prop, (∃ m, W 0 m (upd H1 D (.lst []))) ∧ ∀ i m H, W i m H →
      (J.stop i H ∧ Qd H) ∨ (J.go i H ∧ ∃ Nx : Hp → Prop, (∀ H', Nx H' → ∃ m', m' < m ∧ W (i + 1) m' H') ∧ ∀ x H', J.yld i H x H' → g x (wipe σ vs) H' fun σ2 H2 => wipe σ2 vs = wipe σ vs ∧ tt σ2 H2 fun b H3 =>
        if b = true then te σ2 H3 fun y H4 => ∃ acc, H4 D = some (.lst acc) ∧ acc.length < sizeLine ∧ Nx (upd H4 D (.lst (acc ++ [y]))) else Nx H3) := by
  refine lc_it w (fun i H => R H ∧ ∃ acc, H D = some (.lst acc) ∧ A i acc) ⟨r0, [], upd_same, h0⟩ (fun i H _ p => hG H p.1) (fun i x H H' hi p y => ?_) fun H p => ?_
  · obtain ⟨rH, acc, hD, ha⟩ := p
    refine hs i x H H' acc _ _ hi rH hD ha y (fun v H4 r4 d4 a4 => ⟨acc, d4, ?_, r1 _ _ _ d4 r4, _, upd_same, a4⟩) (fun H3 r3 d3 a3 => ⟨r3, acc, d3, a3⟩)
    have := hA i acc ha
    omega
  · obtain ⟨rH, acc, hD, ha⟩ := p
    exact hd H acc rH hD ha
end L3
namespace L3
open PySem PySem.Spec PyProof.Rows L2
/-- an element that is a text, with the hash that the world gives it -/
def GoodT (w : World) (e : Int × Value) : Prop := ∃ l tk, e.2 = Value.str (tS l) tk ∧ e.1 = hashStr w (tS l)
def txtOf (e : Int × Value) : List Nat := match e.2 with | .str x _ => x.cps.toList | _ => []
theorem txt_tS (l : List Nat) (h : Int) (tk : Tok) : txtOf (h, Value.str (tS l) tk) = l := by simp [txtOf, tS]
theorem tS_txt (x : Str) : tS x.cps.toList = x := by cases x; simp [tS]
/-- the object at a is a set of the texts L -/
def SetT (w : World) (h : Heap) (a : Addr) (L : List (List Nat)) : Prop :=
  ∃ o es ep t, h.get? a = some o ∧ o.ExactSet ∧ o.data = .set es ep t ∧ (∀ e ∈ es.toList, GoodT w e) ∧ (es.toList.map txtOf).Perm L ∧ L.Nodup ∧
    es.size < scanBound ∧ t.fits es.size = true ∧ Ris t.place.toList ∧ (w.params.followText "set-order" = true ∨ t.led = true)
section
variable {P : Program} {w : World} {A : Around} {E : Value → Shared → Prop} {s : Shared} {a : Addr} {L : List (List Nat)}
theorem SetT.at {h h' : Heap} (R : SetT w h a L) (k : ∀ o, h.get? a = some o → h'.get? a = some o) : SetT w h' a L := by
  obtain ⟨o, es, ep, t, ho, r⟩ := R
  exact ⟨o, es, ep, t, k o ho, r⟩
theorem goodT_elems {l : List (Int × Value)} (g : ∀ e ∈ l, GoodT w e) : ElemsOf (PySem.strKind P w) l := fun e he => by
  obtain ⟨x, tk, h1, h2⟩ := g e he
  exact ⟨⟨tS x, by rw [h1]; exact strKind_is P w _ _, h2⟩, by rw [h1]; rfl⟩
theorem goodT_is {e : Int × Value} (g : GoodT w e) (l : List Nat) : (PySem.strKind P w).is (tS l) e.2 = true ↔ txtOf e = l := by
  obtain ⟨x, tk, h1, h2⟩ := g
  have e1 : txtOf e = x := by unfold txtOf; rw [h1]
  rw [e1, h1]
  show Value.isStrOf (tS l) (Value.str (tS x) tk) = true ↔ _
  constructor
  · intro h
    obtain ⟨u, hu⟩ := Value.isStrOf_shape h
    injection hu with hx
    have := congrArg (fun z : Str => z.cps.toList) hx
    simpa [tS] using this
  · rintro rfl
    exact strKind_is P w (tS _) tk
theorem setT_tail {g : Bool → Sem Unit} (hg : ∀ (b : Bool) (s₁ : Shared) (Q' : Unit → Shared → Prop), Q' () s₁ → wpAny (model P w) A (g b) Q' E s₁)
    {o : Obj} {es : Array (Int × Value)} {ep : Nat} {t : SetTable} (ho : s.heap.get? a = some o) (hex : o.ExactSet) (hd : o.data = .set es ep t)
    {es1 : Array (Int × Value)} {t2 : SetTable} {L' : List (List Nat)} (g1 : ∀ e ∈ es1.toList, GoodT w e) (p1 : (es1.toList.map txtOf).Perm L') (nd : L'.Nodup)
    (hb1 : es1.size < scanBound) (hf2 : t2.fits es1.size = true) (hr : Ris t2.place.toList) (hl : w.params.followText "set-order" = true ∨ t2.led = true) {wasDummy : Bool} {R : Option Bool → Shared → Prop}
    (hR : ∀ h', Heap.SameBut a s.heap h' → SetT w h' a L' → R (some true) { s with heap := h' }) :
    wpAny (model P w) A (do
        storeSet a es1 t2
        if (!wasDummy && t2.tooFull) = true then do
            g (relayAll t2 es1 (SetTable.grown es1.size)).2.2
            storeSet a (relayAll t2 es1 (SetTable.grown es1.size)).1 (relayAll t2 es1 (SetTable.grown es1.size)).2.1
            pure (some true)
          else pure (some true)) R E s := by
  refine wpAny_bind (wpAny_storeSet_of ho hd ?_ (fits_of_scanBound hb1))
  have q1 := store_at (es' := es1) (t' := t2) ho hd
  have sb := Heap.SameBut.update s.heap a (Obj.putSet es1 t2)
  split
  · have pm := relayAll_perm t2 es1 (SetTable.grown es1.size)
    have f3 := relayAll_fits t2 es1 (SetTable.grown es1.size)
    have r3 := relayAll_ris t2 es1 (SetTable.grown es1.size)
    have l3 := relayAll_led t2 es1 (SetTable.grown es1.size)
    generalize relayAll t2 es1 (SetTable.grown es1.size) = Z at pm f3 r3 l3 ⊢
    obtain ⟨es2, t3, gv⟩ := Z
    dsimp only at pm f3 r3 l3 ⊢
    have sz : es2.size = es1.size := by rw [← Array.length_toList, pm.length_eq, Array.length_toList]
    refine wpAny_bind (hg _ _ _ ?_)
    refine wpAny_bind (wpAny_storeSet_of q1 rfl ?_ (fits_of_scanBound (by rw [sz]; exact hb1)))
    refine wpAny_pure (hR _ (sb.trans (Heap.SameBut.update _ a _)) ⟨_, es2, _, t3, store_at (es' := es2) (t' := t3) q1 rfl, hex, rfl, fun e he => g1 e (pm.mem_iff.mp he), (pm.map txtOf).trans p1, nd, by rw [sz]; exact hb1, f3, r3, ?_⟩)
    rcases hl with z | z
    · exact .inl z
    · exact .inr (by rw [l3]; exact z)
  · exact wpAny_pure (hR _ sb ⟨_, es1, _, t2, q1, hex, rfl, g1, p1, nd, hb1, hf2, hr, hl⟩)
theorem setT_add {l : List Nat} {tk : Tok} {Q : Bool → Shared → Prop} (R : SetT w s.heap a L) (room : L.length + 1 < scanBound)
    (hQ : ∀ b h', Heap.SameBut a s.heap h' → SetT w h' a (if l ∈ L then L else L ++ [l]) → Q b { s with heap := h' }) :
    wpAny (model P w) A (setAddHashed a (.str (tS l) tk) ((PySem.strKind P w).hash (tS l))) Q E s := by
  obtain ⟨o, es, ep, t, ho, hex, hd, g, pL, nd, hb, hf, hr, hl⟩ := R
  have hkey : (PySem.strKind P w).is (tS l) (.str (tS l) tk) = true := strKind_is P w _ tk
  have hel : ElemsOf (PySem.strKind P w) es.toList := goodT_elems g
  have hn : es.size = L.length := by rw [← Array.length_toList, ← pL.length_eq, List.length_map]
  unfold setAddHashed setAddHashedIn
  refine wpAny_holding (wpAny_bind (wpAny_setState_of ho hd hf ?_))
  dsimp only
  rw [byScan_of (knd := PySem.strKind P w) rfl hb hel]
  simp only [↓reduceIte]
  unfold setAddByScan
  refine wpAny_bind ?_
  refine wpAny_bind (wpAny_rule ?_)
  refine wpAny_bind (wpAny_setScan_of hkey ho hd hf hel ?_)
  cases hfi : List.findIdx? (fun e => (PySem.strKind P w).is (tS l) e.2) es.toList with
  | some j =>
    dsimp only
    obtain ⟨hj, pj, _⟩ := List.findIdx?_eq_some_iff_getElem.mp hfi
    have hm : l ∈ L := pL.mem_iff.mp (List.mem_map.mpr ⟨_, List.getElem_mem hj, (goodT_is (P := P) (g _ (List.getElem_mem hj)) l).mp pj⟩)
    refine wpAny_pure (wpAny_pure ?_)
    have q := hQ false s.heap (Heap.SameBut.refl a s.heap) (by rw [if_pos hm]; exact ⟨o, es, ep, t, ho, hex, hd, g, pL, nd, hb, hf, hr, hl⟩)
    exact q
  | none =>
    dsimp only
    have hm : l ∉ L := fun z => by
      obtain ⟨e, he, q⟩ := List.mem_map.mp (pL.mem_iff.mpr z)
      have c := List.findIdx?_eq_none_iff.mp hfi e he
      rw [(goodT_is (P := P) (g e he) l).mpr q] at c
      cases c
    have hgw : ∀ (b : Bool) {s₁ : Shared} {Q' : Unit → Shared → Prop}, Q' () s₁ → wpAny (model P w) A (match b with | true => rule "set.scan.the-table-gave-way" | false => pure ()) Q' E s₁ :=
      fun b s₁ Q' q => by cases b <;> first | exact wpAny_pure q | exact wpAny_rule q
    have pm := layNew_perm t es ((PySem.strKind P w).hash (tS l)) (.str (tS l) tk)
    have hf1 := layNew_fits t es ((PySem.strKind P w).hash (tS l)) (.str (tS l) tk)
    have hr1 := layNew_ris t es ((PySem.strKind P w).hash (tS l)) (.str (tS l) tk) hr
    have hl1 := layNew_led t es ((PySem.strKind P w).hash (tS l)) (.str (tS l) tk)
    generalize layNew t es ((PySem.strKind P w).hash (tS l)) (.str (tS l) tk) = Z at pm hf1 hr1 hl1 ⊢
    obtain ⟨es1, t1, wd, gv⟩ := Z
    dsimp only at pm hf1 hr1 hl1 ⊢
    rw [Array.toList_push] at pm
    have g1 : ∀ e ∈ es1.toList, GoodT w e := fun e he => by
      rcases List.mem_append.mp (pm.mem_iff.mp he) with z | z
      · exact g e z
      · rw [List.mem_singleton.mp z]; exact ⟨l, tk, rfl, rfl⟩
    have p1 : (es1.toList.map txtOf).Perm (L ++ [l]) := by
      refine (pm.map txtOf).trans ?_
      rw [List.map_append, List.map_cons, List.map_nil, txt_tS]
      exact pL.append_right _
    have nd1 : (L ++ [l]).Nodup := by
      rw [List.nodup_append]
      refine ⟨nd, by simp, fun x hx y hy => ?_⟩
      rw [List.mem_singleton.mp hy]
      exact fun z => hm (z ▸ hx)
    have hsz : es1.size = L.length + 1 := by rw [← Array.length_toList, pm.length_eq, List.length_append, Array.length_toList, hn]; rfl
    have hb1 : es1.size < scanBound := by rw [hsz]; exact room
    have hled : w.params.followText "set-order" = true ∨ t1.led = true := by
      rcases hl with z | z
      · exact .inl z
      · exact .inr (by rw [hl1]; exact z)
    have fin : ∀ h', Heap.SameBut a s.heap h' → SetT w h' a (L ++ [l]) → Q true { s with heap := h' } := fun h' sb r => hQ true h' sb (by rw [if_neg hm]; exact r)
    refine wpAny_bind (hgw _ ?_)
    split
    · refine wpAny_bind ?_
      rw [hashByValue_scannable 8 rfl]
      refine wpAny_pure ?_
      refine setT_tail ?_ ho hex hd g1 p1 nd1 hb1 ?_ ?_ ?_ ?_
      · intro b s₁ Q' q; cases b <;> first | exact wpAny_pure q | exact wpAny_rule q
      · first | (split <;> first | exact hf1 | exact SetTable.fits_plain_off hf1) | exact hf1
      · first | (split <;> exact hr1) | exact hr1
      · first | (split <;> exact hled) | exact hled
      · intro h' sb r; dsimp only; exact wpAny_pure (fin h' sb r)
    · refine wpAny_bind (wpAny_pure ?_)
      simp only [↓reduceIte]
      refine setT_tail ?_ ho hex hd g1 p1 nd1 hb1 hf1 hr1 hled ?_
      · intro b s₁ Q' q; cases b <;> first | exact wpAny_pure q | exact wpAny_rule q
      · intro h' sb r; dsimp only; exact wpAny_pure (fin h' sb r)
end
end L3
namespace L3
open PySem PySem.Spec PyProof.Rows L2
/-- the first ones, each once -/
def ded (val : Nat → List Nat) : Nat → List (List Nat)
  | 0 => []
  | i + 1 => if val i ∈ ded val i then ded val i else ded val i ++ [val i]
theorem ded_len (val : Nat → List Nat) : ∀ i, (ded val i).length ≤ i
  | 0 => Nat.le_refl _
  | i + 1 => by
    have := ded_len val i
    unfold ded
    split
    · omega
    · rw [List.length_append]
      exact Nat.succ_le_succ this
theorem ded_mem (val : Nat → List Nat) (l : List Nat) : ∀ i, l ∈ ded val i ↔ ∃ j, j < i ∧ val j = l
  | 0 => by simp [ded]
  | i + 1 => by
    have ih := ded_mem val l i
    unfold ded
    split
    · rename_i h
      rw [ih]
      refine ⟨fun ⟨j, h1, h2⟩ => ⟨j, by omega, h2⟩, fun ⟨j, h1, h2⟩ => ?_⟩
      by_cases e : j = i
      · subst e
        rw [h2] at h
        exact ih.mp h
      · exact ⟨j, by omega, h2⟩
    · rw [List.mem_append, ih, List.mem_singleton]
      constructor
      · rintro (⟨j, h1, h2⟩ | h)
        · exact ⟨j, by omega, h2⟩
        · exact ⟨i, by omega, h.symm⟩
      · rintro ⟨j, h1, h2⟩
        by_cases e : j = i
        · exact .inr (by rw [← h2, e])
        · exact .inl ⟨j, by omega, h2⟩
section
variable {prog : Program} {w : World} {A : Around} {R : Result → Shared → Prop} {I : Addr} {fp wr : List Addr} {G : Array GenState → Array GenState → Prop} {n : Nat} {P : Nat → Value → Prop} {St : Nat → Shared → Prop}
theorem set_loopT (W : WalksS prog w A.in1 I fp wr G n P St) (S : Addr) (hSf : S ∉ fp) (val : Nat → List Nat) (hval : ∀ i v, P i v → ∃ t, v = Value.str (tS (val i)) t) (hb : n + 1 < scanBound) :
    ∀ (k i : Nat) (s : Shared), n - i = k → i ≤ n → St i s → SetT w s.heap S (ded val i) →
      (∀ s', Moved (S :: wr) G s s' → SetT w s'.heap S (ded val n) → R (.ok (.ret .none)) s') →
      codeAny (model prog w) A (.builtin "set.update.loop" ⟨[.ref S, .ref I], []⟩) R s := by
  have hSw : S ∉ wr := fun h => hSf (W.sub _ h)
  have sub : ∀ b ∈ wr, b ∈ S :: wr := fun b hb => List.mem_cons_of_mem _ hb
  intro k
  induction k with
  | zero =>
    intro i s hk hi hst hS hR
    obtain rfl : i = n := by omega
    refine codeAny_builtin PyProof.Rows.F.entry_set_update_loop ?_
    rw [Around.under_plainId PyProof.Rows.F.plain_set_update_loop _]
    show wpAny _ A.in1 (pyNext (.ref I) >>= _) _ _ s
    refine wpAny_bind (W.done s _ _ hst fun s' hm => ?_)
    show wpAny _ A.in1 (ret Value.none) _ _ s'
    exact wpAny_pure (hR s' (hm.mono sub) (hS.at fun o ho => hm.heap S _ hSw ho))
  | succ k ih =>
    intro i s hk hi hst hS hR
    have hlt : i < n := by omega
    refine codeAny_builtin PyProof.Rows.F.entry_set_update_loop ?_
    rw [Around.under_plainId PyProof.Rows.F.plain_set_update_loop _]
    show wpAny _ A.in1 (pyNext (.ref I) >>= _) _ _ s
    refine wpAny_bind (W.item i s _ _ hlt hst fun v s' hP hst' hm => ?_)
    obtain ⟨t, rfl⟩ := hval i v hP
    have hS' : SetT w s'.heap S (ded val i) := hS.at fun o ho => hm.heap S _ hSw ho
    show wpAny _ A.in1 (holding [Value.str (tS (val i)) t] (setAdd S (.str (tS (val i)) t)) >>= _) _ _ s'
    refine wpAny_bind (wpAny_holding ?_)
    unfold setAdd
    refine wpAny_holding ?_
    refine wpAny_bind ((PySem.strKind prog w).pyHash (k := tS (val i)) (strKind_is prog w _ t) ?_)
    have room : (ded val i).length + 1 < scanBound := by have := ded_len val i; omega
    refine setT_add (P := prog) (s := { s' with toks := s'.toks + 1 }) hS' room fun b h' sb hS2 => ?_
    refine wpAny_pure ⟨plainId_quiet PyProof.Rows.F.plain_set_update_loop _, ih (i + 1) _ (by omega) hlt (W.frame _ s' _ _ hst' (Nat.le_succ _) fun b hb o e => ?_) hS2 fun s'' hm'' hS'' => ?_⟩
    · rw [sb.2 b (fun h : b = S => hSf (by rw [← h]; exact hb))]; exact e
    · refine hR s'' (Moved.trans W.gtrans ((hm.mono sub).then_heap (Nat.le_succ _) fun b o hb e => ?_) hm'') hS''
      rw [sb.2 b (fun h : b = S => hb (by rw [h]; exact List.mem_cons_self))]; exact e
end
section
variable {P : Program} {w : World} {A : Around} {E : Value → Shared → Prop} {s : Shared}
theorem code_set_led1 (a : Value) {Q₁ : Value → Shared → Prop}
    (h : Q₁ (.ref s.heap.objs.size) { s with heap := s.heap.push { cls := .type "set", dict := none, data := .set #[] 0 (.fresh 0 0 (!w.params.followText "set-order")) } }) :
    codeAny (model P w) A (.call (.builtin "set.__new__") ⟨[.type "set", a], []⟩) (wants Q₁ E) s := by
  refine codeAny_of_tree ?_
  show wpAny _ A.in1 (do checkBuiltinCall "set.__new__" ⟨[.type "set", a], []⟩; again (.builtin "set.__new__" ⟨[.type "set", a], []⟩)) _ _ s
  refine wpAny_bind (wpAny_of_eq (PySem.F.newCall_set_1 a) (wpAny_pure ⟨plainId_quiet PySem.F.plain_set_new _, codeAny_builtin PySem.F.entry_set_new ?_⟩))
  rw [Around.under_plainId PySem.F.plain_set_new _]
  unfold Builtin.«set.__new__» Builtin.Frozenset.newClass
  have hsub := sub_set_self
  obtain ⟨hp, g, d, tk, os⟩ := s
  dsimp only
  wp_walk
  refine wpAny_askSetting (wpAny_pure ?_)
  dsimp only
  simp only [newObj]
  refine wpAny_bind (wpAny_alloc (wpAny_pure ?_))
  exact wpAny_pure h
theorem setT_fresh {h : Heap} (w : World) : SetT w (h.push { cls := .type "set", dict := none, data := .set #[] 0 (.fresh 0 0 (!w.params.followText "set-order")) }) h.objs.size [] := by
  refine ⟨_, #[], 0, _, Heap.get?_push_size _ rfl, ⟨rfl, rfl, rfl⟩, rfl, (fun e he => by simp at he), .refl _, List.nodup_nil, by decide, rfl, List.Pairwise.nil, ?_⟩
  show _ ∨ (!w.params.followText "set-order") = true
  cases w.params.followText "set-order"
  · exact .inr rfl
  · exact .inl rfl
end
end L3
namespace L3
open PySem PySem.Spec PyProof.Rows L2
theorem sub_str_set : isSubtype (.type "str") (.type "set") = pure false := by rw [isSubtype_type]; kernel_rfl
theorem sub_str_frozenset : isSubtype (.type "str") (.type "frozenset") = pure false := by rw [isSubtype_type]; kernel_rfl
section
variable {P : Program} {w : World} {A : Around} {E : Value → Shared → Prop} {s : Shared}
set_option maxHeartbeats 8000000 in
/-- set(text) -/
theorem call_set_text {x : List Nat} {tx0 : Tok} {Q : Value → Shared → Prop} (hh : A.handled = none) (hb : x.length + 1 < scanBound)
    (h : ∀ (h' : Heap) (tk : Nat), SetT w h' s.heap.objs.size (ded (fun i => [x.getD i 0]) x.length) →
      (∀ b o, b < s.heap.objs.size → s.heap.get? b = some o → h'.get? b = some o) → Q (.ref s.heap.objs.size) { s with heap := h', toks := tk }) :
    wpAny (model P w) A (call (.type "set") [.str (tS x) tx0]) Q E s := by
  obtain ⟨c, tl, hmro⟩ := PySem.F.called_set.mro
  have hmade := PySem.F.called_set.made
  have hsub := PySem.F.called_set.sub
  refine wpAny_call (codeAny_of_tree ?_)
  show wpAny _ _ (callAny (.type "set") _) _ _ _
  refine wpAny_pure ⟨Code.quiet_builtin _ (by decide +kernel), codeAny_builtin PySem.F.entry_type_call ?_⟩
  rw [Around.under_plain (weight_type_call_type "set" [.str (tS x) tx0] []) rfl]
  have h1 := PySem.F.called_set.notType
  have h2 := PySem.F.called_set.canCreate
  have hct := PySem.F.typeCall_set_1 (.str (tS x) tx0)
  repeat (any_goals (first | assumption | wp_step))
  refine codeAny_mono (code_set_led1 (.str (tS x) tx0) (E := E) (Q₁ := fun obj s₁ => obj = .ref s.heap.objs.size ∧ s₁ = { s with heap := s.heap.push { cls := .type "set", dict := none, data := .set #[] 0 (.fresh 0 0 (!w.params.followText "set-order")) } }) ⟨rfl, rfl⟩) fun r s₁ hr => ?_
  cases r with
  | error e => exact hr
  | ok fl =>
    cases fl with
    | ret obj =>
      obtain ⟨rfl, rfl⟩ := hr
      have hS : (s.heap.push { cls := .type "set", dict := none, data := .set #[] 0 (.fresh 0 0 (!w.params.followText "set-order")) }).get? s.heap.objs.size = some { cls := .type "set", dict := none, data := .set #[] 0 (.fresh 0 0 (!w.params.followText "set-order")) } := Heap.get?_push_size _ rfl
      have hT : Shared.TypeIs { s with heap := s.heap.push { cls := .type "set", dict := none, data := .set #[] 0 (.fresh 0 0 (!w.params.followText "set-order")) } } (.ref s.heap.objs.size) "set" := ⟨_, hS, rfl⟩
      have hli := PySem.F.called_set.init.lookup
      have hbi := PySem.F.called_set.init.bind (.ref s.heap.objs.size)
      repeat (any_goals (first | assumption | wp_step))
      refine codeAny_mono (codeAny_call_builtin (R := wants (fun r s₂ => r = .none ∧ ∃ h' tk, s₂ = { s with heap := h', toks := tk } ∧ SetT w h' s.heap.objs.size (ded (fun i => [x.getD i 0]) x.length) ∧
          (∀ b o, b < s.heap.objs.size → s.heap.get? b = some o → h'.get? b = some o)) E) PySem.F.called_set.init.plain PySem.F.entry_set_init (PySem.check_set_init_1 hT ?_)) fun r₂ s₂ hr₂ => ?_
      · have hsls := sub_str_set
        have hslf := sub_str_frozenset
        have hne : (Value.type "str" == Value.type "dict") = false := by decide
        unfold Builtin.«set.__init__» noKeywords Builtin.Frozenset.updateFrom
        generalize hPI : pyIter = PI
        wp_walk
        subst hPI
        refine wpAny_pyIter_str fun oi St hW hst => ?_
        refine wpAny_bind (wpAny_runValue ?_)
        have hh3 : A.in1.in1.in1.handled = none := by simp [hh]
        have hsz : (s.heap.push { cls := .type "set", dict := none, data := .set #[] 0 (.fresh 0 0 (!w.params.followText "set-order")) }).objs.size = s.heap.objs.size + 1 := Heap.size_push _ _
        have hSf : s.heap.objs.size ∉ [(s.heap.push { cls := .type "set", dict := none, data := .set #[] 0 (.fresh 0 0 (!w.params.followText "set-order")) }).objs.size] := by
          rw [hsz]
          simp
        have hn : (tS x).cps.size = x.length := tS_len x
        have hval : ∀ (i : Nat) (v : Value), SignAt (tS x) i v → ∃ t, v = Value.str (tS [x.getD i 0]) t := fun i v hv => by
          obtain ⟨c, u, hc, rfl⟩ := hv
          have hc' : x[i]? = some c := by simpa [tS] using hc
          refine ⟨u, ?_⟩
          rw [List.getD_eq_getElem?_getD, hc']
          rfl
        refine set_loopT ((hW _ hh3).toS) s.heap.objs.size hSf (fun i => [x.getD i 0]) hval (by rw [hn]; exact hb) _ 0 _ rfl (Nat.zero_le _) hst ((setT_fresh w).at fun o ho => Heap.get?_push_of_some _ ho) fun s' hm hS' => ?_
        obtain ⟨h', g', d', tk', os'⟩ := s'
        have eg : g' = s.gens := hm.gens
        have ed : d' = s.drawn := hm.drawn
        have eo : os' = s.os := hm.os
        subst eg ed eo
        rw [hn] at hS'
        show wpAny _ _ _ _ _ _
        refine wpAny_pure ?_
        show wpAny _ _ (ret Value.none) _ _ _
        refine wpAny_pure ⟨rfl, h', tk', rfl, hS', fun b o hb e => ?_⟩
        refine hm.heap b o (fun z => ?_) (Heap.get?_push_of_some _ (Heap.get?_push_of_some _ e))
        simp only [List.mem_cons, List.not_mem_nil, or_false] at z
        rcases z with z | z
        · exact absurd z (Nat.ne_of_lt hb)
        · rw [hsz] at z
          exact absurd z (Nat.ne_of_lt (Nat.lt_succ_of_lt hb))
      · cases r₂ with
        | error e => exact hr₂
        | ok fl₂ =>
          cases fl₂ with
          | ret r =>
            obtain ⟨rfl, h', tk, rfl, hS', hk'⟩ := hr₂
            repeat (any_goals (first | assumption | wp_step))
            exact h _ _ hS' hk'
          | _ => exact hr₂.elim
    | _ => exact hr.elim
end
end L3
namespace L3
open PySem PySem.Spec PyProof.Rows L2
def sVal (v : Value) : Str := match v with | .str x _ => x | _ => Str.empty
theorem strs_of : ∀ (l : List Value), (∀ v ∈ l, ∃ k tk, v = Value.str k tk) → StrsAre l (l.map sVal)
  | [], _ => .nil
  | v :: l, h => by
    obtain ⟨k, tk, rfl⟩ := h v List.mem_cons_self
    exact .cons k tk (strs_of l fun u hu => h u (List.mem_cons_of_mem _ hu))
section
variable {P : Program} {w : World} {A : Around} {E : Value → Shared → Prop} {s : Shared} {a : Addr} {L : List (List Nat)}
theorem sorted_setX {Q : Value → Shared → Prop} (R : SetT w s.heap a L) (hh : A.handled = none)
    (hQ : ∀ s' p (out : Array Value) (c : Nat) (ss : List Str), (∀ b o, s.heap.get? b = some o → s'.heap.get? b = some o) → s'.gens = s.gens → s'.os = s.os → s.heap.objs.size ≤ p →
      s'.heap.get? p = some (seqObj "list" out c) → StrsAre out.toList ss → ss.Perm (L.map tS) → sortedS ss = true → Q (.ref p) s') :
    wpAny (model P w) A (call (.builtin "sorted") [.ref a]) Q E s := by
  obtain ⟨o, es, ep, t, ho, hex, hd, g, pL, nd, hb, hf, hr, hl⟩ := R
  refine Calls.call_function_entry kind_sorted plain_sorted entry_sorted (args_sorted1 _) ?_
  unfold Builtin.«sorted»
  refine wpAny_bind (m := checkCount "sorted" 1 1 _) (wpAny_pure ?_)
  refine wpAny_bind (collect_set (A := A.in1) hh ⟨o, ho, hex.1, hd⟩ hf hb hr hl fun s1 vs k1 hz g1 o1 pm => ?_)
  have hvl : vs.length = es.size := by rw [pm.length_eq, List.length_map, Array.length_toList]
  have hS : StrsAre vs (vs.map sVal) := strs_of vs fun v hv => by
    obtain ⟨e, he, q⟩ := List.mem_map.mp (pm.mem_iff.mp hv)
    obtain ⟨x, tk, h1, _⟩ := g e he
    exact ⟨tS x, tk, by rw [← q]; exact h1⟩
  have pk : (vs.map sVal).Perm (L.map tS) := by
    refine (pm.map sVal).trans ?_
    rw [List.map_map]
    have e1 : es.toList.map (sVal ∘ fun x => x.2) = (es.toList.map txtOf).map tS := by
      rw [List.map_map]
      refine List.map_congr_left fun e he => ?_
      obtain ⟨x, tk, h1, _⟩ := g e he
      show sVal e.2 = tS (txtOf e)
      unfold txtOf
      rw [h1]
      show tS x = tS (tS x).cps.toList
      rw [tS_txt]
    rw [e1]
    exact pL.map tS
  have hL : vs.length ≤ sizeLine := by rw [hvl]; exact fits_of_scanBound hb
  refine wpAny_bind (wpAny_newList ?_ hL)
  have hoL : (s1.heap.push (seqObj "list" vs.toArray 0)).get? s1.heap.objs.size = some (seqObj "list" vs.toArray 0) := Heap.get?_push_size _ rfl
  refine wpAny_bind (wpAny_holding (wpAny_call_entry slot_list_sort ⟨_, hoL, rfl⟩ entry_list_sort (list_sort_treeKAny strKind_oneLt hoL hS.keysOf (fun v₁ v₂ rest e => keyKind_strs (by rw [← e]; exact hS)) hL fun st' hp hs => ⟨_, rfl, ?_⟩) (args_list_sort _)))
  obtain ⟨ss', a1, a2, a3⟩ := sorted_out_str hS hp hs
  obtain ⟨c, hc⟩ := sortedHeap_at (vs := vs) (out := (arrOf st').map (·.2)) hoL
  refine wpAny_pure ⟨_, rfl, hQ _ s1.heap.objs.size _ c ss' (fun b u e => ?_) g1 o1 hz hc a1 (a2.trans pk) a3⟩
  have q := k1 b u e
  have hlt := Heap.lt_size q
  show (sortedHeap (s1.heap.push (seqObj "list" vs.toArray 0)) s1.heap.objs.size vs _).get? b = some u
  rw [sortedHeap_old (Nat.ne_of_lt hlt) (by rw [size_push']; exact Nat.lt_succ_of_lt hlt)]
  exact Heap.get?_push_of_some _ q
end
end L3
namespace L3
open PySem PySem.Spec PyProof.Rows L2
/-- the set of the texts L at a -/
def TSet (w : World) (a : Addr) (L : List (List Nat)) : HO := .ext fun h => SetT w h a L
/-- the letters of a text, each once -/
def lets (l : List Nat) : List (List Nat) := ded (fun i => [l.getD i 0]) l.length
theorem lets_mem {l x : List Nat} : x ∈ lets l ↔ ∃ c, c ∈ l ∧ x = [c] := by
  unfold lets
  rw [ded_mem]
  constructor
  · rintro ⟨j, hj, rfl⟩
    refine ⟨l.getD j 0, ?_, rfl⟩
    rw [List.getD_eq_getElem?_getD, List.getElem?_eq_getElem hj]
    exact List.getElem_mem hj
  · rintro ⟨c, hc, rfl⟩
    obtain ⟨j, hj, rfl⟩ := List.getElem_of_mem hc
    exact ⟨j, hj, by rw [List.getD_eq_getElem?_getD, List.getElem?_eq_getElem hj]; rfl⟩
theorem rising_pair : ∀ (ss : List Str) (p : Str), risingS p ss = true → (p :: ss).Pairwise fun a b => ¬ b.cps.toList < a.cps.toList
  | [], p, _ => by simp
  | x :: ss, p, h => by
    have h : (!ltCps x.cps.toList p.cps.toList && risingS x ss) = true := h
    rw [Bool.and_eq_true, Bool.not_eq_true', ltCps_eq, decide_eq_false_iff_not] at h
    have ih := rising_pair ss x h.2
    refine List.pairwise_cons.mpr ⟨fun y hy => ?_, ih⟩
    rcases List.mem_cons.mp hy with rfl | hy
    · exact h.1
    · have h2 := (List.pairwise_cons.mp ih).1 y hy
      exact List.not_lt.mpr (List.le_trans (List.not_lt.mp h.1) (List.not_lt.mp h2))
theorem sorted_pair {ss : List Str} (h : sortedS ss = true) : ss.Pairwise fun a b => ¬ b.cps.toList < a.cps.toList := by
  cases ss with
  | nil => exact List.Pairwise.nil
  | cons x r => exact rising_pair r x h
theorem vals_strsT : ∀ {vs : List Value} {ss : List Str}, StrsAre vs ss → Vals ((ss.map fun z => z.cps.toList).map tx) vs
  | _, _, .nil => .nil
  | _, _, .cons y t k => .cons ⟨t, by show Value.str y t = Value.str (tS y.cps.toList) t; rw [tS_txt]⟩ (vals_strsT k)
theorem up_strict {L : List (List Nat)} (h : L.Pairwise fun a b => ¬ b < a) (d : L.Nodup) : L.Pairwise (· < ·) := by
  induction L with
  | nil => exact List.Pairwise.nil
  | cons x l ih =>
    obtain ⟨h1, h2⟩ := List.pairwise_cons.mp h
    obtain ⟨d1, d2⟩ := List.nodup_cons.mp d
    refine List.pairwise_cons.mpr ⟨fun y hy => ?_, ih h2 d2⟩
    rcases Decidable.em (x < y) with k | k
    · exact k
    · exact absurd (List.le_antisymm (List.not_lt.mp (h1 y hy)) (List.not_lt.mp k)) (fun z => d1 (z ▸ hy))
section
variable {X : Cx}
theorem tset_new {w : World} {P : Program} {H : Hp} {h : Heap} {a : Addr} {L : List (List Nat)} (R : SetT w h a L) : ObjOk P w H h a (TSet w a L) := by
  obtain ⟨o, es, ep, t, ho, r⟩ := id R
  exact ⟨R, ⟨o, ho⟩, fun h1 h2 p k => SetT.at p k⟩
/-- set(text) -/
theorem cr_setT (hc : X.calm = true) : CallR X (.type "set") (fun xs H Q => ∃ l, xs = [tx l] ∧ l.length ≤ 4000 ∧ ∀ p, H p = none → Q (.ref p) (upd H p (TSet X.w p (lets l)))) := by
  intro pins s σ H xs us Q I r h
  obtain ⟨l, rfl, hz, q⟩ := h
  obtain ⟨u, rfl, rx⟩ := vals1 r
  obtain ⟨t, rfl⟩ := rx
  refine call_set_text (I.ok.hd hc) (by unfold scanBound; omega) fun h' tk hS hk => ?_
  exact ⟨.ref _, _, I.laid (t' := tk) (fun b o e => hk b o (Heap.lt_size e) e) (Nat.le_refl _) (tset_new hS), rfl, q _ (I.hok.fresh (Nat.le_refl _))⟩
/-- sorted(set) -/
theorem cr_sortSetT (hc : X.calm = true) : CallR X (.builtin "sorted") (fun xs H Q => ∃ (a : Addr) (L : List (List Nat)), xs = [.ref a] ∧ H a = some (TSet X.w a L) ∧
    ∀ (L' : List (List Nat)) (p : Addr), L'.Perm L → L'.Pairwise (· < ·) → H p = none → Q (.ref p) (upd H p (.lst (L'.map tx)))) := by
  intro pins s σ H vs us Q I r h
  obtain ⟨a, L, rfl, ha, q⟩ := h
  have R : SetT X.w s.heap a L := (I.hok a _ ha).1
  rw [Vals.ref1 r]
  have nd : L.Nodup := by obtain ⟨_, _, _, _, _, _, _, _, _, n, _⟩ := R; exact n
  have hLs : L.length ≤ sizeLine := by
    obtain ⟨_, es, _, _, _, _, _, _, pL, _, hb, _⟩ := R
    rw [← pL.length_eq, List.length_map, Array.length_toList]
    exact fits_of_scanBound hb
  refine sorted_setX R (I.ok.hd hc) fun s' p out c ss k g o hp hg hi pm hs => ?_
  have pL' : (ss.map fun z => z.cps.toList).Perm L := by
    have := pm.map fun z : Str => z.cps.toList
    rw [List.map_map] at this
    have e : L.map ((fun z : Str => z.cps.toList) ∘ tS) = L := by
      conv => rhs; rw [← List.map_id L]
      refine List.map_congr_left fun l _ => ?_
      simp [tS]
    rwa [e] at this
  have hn : H p = none := I.hok.fresh hp
  have J : Inv X pins σ (upd H p (.lst ((ss.map fun z => z.cps.toList).map tx))) { s with heap := s'.heap, gens := s'.gens, drawn := s'.drawn, toks := s'.toks } :=
    I.call (ch := []) (Un.laid k hp hn) (I.hok.laid k hp ⟨by rw [List.length_map, pL'.length_eq]; exact hLs, out.toList, c, vals_strsT hi, hg⟩) (by rw [g]; exact I.bare) (fun _ z => nomatch z)
  have e : s' = { s with heap := s'.heap, gens := s'.gens, drawn := s'.drawn, toks := s'.toks } := by
    cases s'
    cases s
    cases o
    rfl
  rw [e]
  refine ⟨.ref p, _, J, rfl, q _ p pL' (up_strict ?_ (pL'.nodup_iff.mpr nd)) hn⟩
  rw [List.pairwise_map]
  exact sorted_pair hs
end
end L3
namespace L3
open PySem PySem.Spec PyProof.Rows L2
section
variable {X : Cx} {C f : Addr} {fd : FuncData} {k : Nat} {sp : Sp} {E : XK} {y : Str}
/-- a method run from inside a built-in -/
theorem run_own {pins : List (Addr × Obj)} {σ : L2.St} {H : Hp} {s : Shared} {ps : List Str} {us : List Value} {vs : List V} {Q : VK} {R : Value → Shared → Prop} (F : FnOkG X.prog X.w X.K X.mg X.base CX0 k f fd ps sp) (hr : Room (k + 1) X.A) (hG : X.A.guards = some []) (hb : L2.Binds X.K fd ps [])
    (I : L2.Inv X pins σ H s) (r : Vals vs us) (h : sp vs H Q E0) (hR : ∀ u s', EP X pins σ Q u s' → R u s') {E' : Value → Shared → Prop} : wpAny (model X.prog X.w) X.A.in1 (call (.ref f) us) R E' s := by
  have hl : (us ++ []).length = ps.length := by rw [List.append_nil, ← r.length]; exact F.len _ _ _ _ h
  have hb' : BindsTo s fd ⟨us, []⟩ (ps.zip us) := by
    have := hb s us I.kIn hl
    rwa [List.append_nil] at this
  refine wpAny_call (codeAny_mono (F.run X.A.in1 X.stack s H ⟨us, []⟩ us vs Q E0 hr.in1 hG I.env0.in1 hb' r h) fun r s' hq => ?_)
  cases r with
  | error e => exact (show False from hq).elim
  | ok fl =>
    cases fl with
    | ret u => exact hR u s' (I.after hq)
    | next => exact False.elim hq
    | brk => exact False.elim hq
    | cont => exact False.elim hq
/-- len(o) -/
theorem cr_lenOwn (F : FnOkG X.prog X.w X.K X.mg X.base CX0 k f fd ["self"] sp) (hr : Room (k + 1) X.A) (hG : X.A.guards = some []) (hb : L2.Binds X.K fd ["self"] []) (m : Meth X.K C "__len__" f) :
    CallR X (.builtin "len") (fun xs H Q => ∃ a dx fs, xs = [.ref a] ∧ H a = some (.ins C dx fs) ∧ sp [.ref a] H (fun v H' => ∃ n : Nat, v = .int (n : Int) ∧ n ≤ sizeLine ∧ Q (.int (n : Int)) H') E0) := by
  intro pins s σ H xs us Q I r h
  obtain ⟨a, dx, fs, rfl, ha, h⟩ := h
  rw [Vals.ref1 r]
  obtain ⟨mA, O, _⟩ := ins_get I.hok ha
  obtain ⟨od, J, _⟩ := O.look
  obtain ⟨mm, FF⟩ := I.fr
  refine PySem.W.len_K FF I.ok.mod.kin J m.at_ m.fn (run_own (vs := [.ref a]) (us := [.ref a]) F hr hG hb I (.cons rfl .nil) h fun u s' hq => ?_)
  obtain ⟨v, H', I', rv, n, rfl, hn, q⟩ := hq
  obtain ⟨t, rfl⟩ := rv
  exact ⟨⟨by omega, by rw [sizeLine_eq] at hn; omega⟩, .int (n : Int), H', I'.tok _, ⟨_, rfl⟩, q⟩
/-- repr(o) -/
theorem cr_reprOwn (F : FnOkG X.prog X.w X.K X.mg X.base CX0 k f fd ["self"] sp) (hr : Room (k + 1) X.A) (hG : X.A.guards = some []) (hb : L2.Binds X.K fd ["self"] []) (m : Meth X.K C "__repr__" f) :
    CallR X (.builtin "repr") (fun xs H Q => ∃ a dx fs, xs = [.ref a] ∧ H a = some (.ins C dx fs) ∧ sp [.ref a] H (fun v H' => ∃ z : Str, v = .str z ∧ Q (.str z) H') E0) := by
  intro pins s σ H xs us Q I r h
  obtain ⟨a, dx, fs, rfl, ha, h⟩ := h
  rw [Vals.ref1 r]
  obtain ⟨mA, O, _⟩ := ins_get I.hok ha
  obtain ⟨od, J, _⟩ := O.look
  obtain ⟨mm, FF⟩ := I.fr
  have hu := hr.units
  refine PySem.W.repr_K (by show X.A.units + 1 < cLine; omega) FF I.ok.mod.kin J m.at_ m.fn (run_own (vs := [.ref a]) (us := [.ref a]) F hr hG hb I (.cons rfl .nil) h fun u s' hq => ?_)
  obtain ⟨v, H', I', rv, z, rfl, q⟩ := hq
  obtain ⟨t, rfl⟩ := rv
  exact ⟨.str z, H', I', ⟨t, rfl⟩, q⟩
/-- x in o -/
theorem op_inOwn (F : FnOkG X.prog X.w X.K X.mg X.base CX0 k f fd ["self", y] sp) (hr : Room (k + 1) X.A) (hG : X.A.guards = some []) (hb : L2.Binds X.K fd ["self", y] []) (m : Meth X.K C "__contains__" f) :
    OpR X (compareOp .In) (fun x o H Q => ∃ a dx fs, o = .ref a ∧ H a = some (.ins C dx fs) ∧ sp [.ref a, x] H (fun v H' => ∃ b : Bool, v = .bl b ∧ Q (.bl b) H') E0) := by
  intro pins s σ H x o v u Q I rx ro h
  obtain ⟨a, dx, fs, rfl, ha, h⟩ := h
  cases ro
  obtain ⟨mA, O, _⟩ := ins_get I.hok ha
  obtain ⟨od, J, _⟩ := O.look
  obtain ⟨mm, FF⟩ := I.fr
  refine PySem.W.in_K FF I.ok.mod.kin J m.at_ m.fn ?_
  refine thn (run_fnG (vs := [.ref a, x]) (us := [.ref a, v]) (ws := [.ref a, v]) (kw := []) F (hr.mono (Nat.le_succ k)) hG pass0 I (hb s [.ref a, v] I.kIn rfl) (.cons rfl (.cons rx .nil)) h) fun u s' hq => ?_
  obtain ⟨w, H', I', rw', b, rfl, q⟩ := hq
  cases rw'
  cases b
  · exact wpAny_pure ⟨.bl false, H', I', rfl, q⟩
  · exact wpAny_pure ⟨.bl true, H', I', rfl, q⟩
end
end L3
namespace L3
open PySem PySem.Spec PyProof.Rows L2
/-- what is walked -/
inductive Src where
  | L (a : Addr) | T (a : Addr) | S (x : Str)
/-- its items -/
def Src.has (K : PySem.W.Frag) (H : Hp) : Src → List V → Prop
  | .L a, xs => SqL K H a xs
  | .T a, xs => SqT K H a xs
  | .S x, xs => xs = x.cps.toList.map fun c => V.str ⟨#[c]⟩
def Src.val : Src → V
  | .L a => .ref a
  | .T a => .ref a
  | .S x => .str x
def Src.it : Src → Addr → Nat → Heap → Prop
  | .L a, it, i, h => h.IsListIter it a i
  | .T a, it, i, h => h.IsTupleIter it a i
  | .S x, it, i, h => ∃ t, h.IsStrIter it (strIterType x) x t i
theorem vals_back : ∀ {xs : List V} {us : List Value} {i : Nat} {u : Value}, Vals xs us → us[i]? = some u → ∃ x, xs[i]? = some x ∧ RelV x u
  | _, _, _, _, .nil, e => by simp at e
  | _, _, 0, _, .cons r _, e => by simp at e; subst e; exact ⟨_, rfl, r⟩
  | _, _, i + 1, u, .cons _ t, e => by
    obtain ⟨x, h1, h2⟩ := vals_back (i := i) (u := u) t (by simpa using e)
    exact ⟨x, by simpa using h1, h2⟩
theorem Src.obj {z : Src} {it : Addr} {i : Nat} {h : Heap} (st : z.it it i h) : ∃ o, h.get? it = some o ∧ ∀ v, o.data ≠ .cell v := by
  cases z with
  | L a => obtain ⟨o, e, _, d⟩ := st; exact ⟨o, e, fun v q => by rw [d] at q; cases q⟩
  | T a => obtain ⟨o, e, _, d⟩ := st; exact ⟨o, e, fun v q => by rw [d] at q; cases q⟩
  | S x => obtain ⟨t, o, e, _, d⟩ := st; exact ⟨o, e, fun v q => by rw [d] at q; cases q⟩
theorem Src.keep {z : Src} {it : Addr} {i : Nat} {h h' : Heap} (st : z.it it i h) (k : ∀ o, h.get? it = some o → h'.get? it = some o) : z.it it i h' := by
  cases z with
  | L a => exact Heap.IsListIter.at st k
  | T a => exact Heap.IsTupleIter.at st k
  | S x => obtain ⟨t, o, e, r⟩ := st; exact ⟨t, o, k o e, r⟩
section
variable {X : Cx} {pins : List (Addr × Obj)} {σ : L2.St} {H : Hp} {s : Shared}
theorem Src.draws {z : Src} {xs : List V} {it : Addr} {i : Nat} (hh : X.A.handled = none) (I : L2.Inv X pins σ H s) (q : z.has X.K H xs) (st : z.it it i s.heap) (hn : ∀ a, z.val = .ref a → a ≠ it) :
    ∃ (fp : List Addr) (P : Nat → Value → Prop) (St : Nat → Heap → Prop), Draws X.prog X.w X.A.in1 it (it :: fp) xs.length P St ∧ (∀ b ∈ fp, z.val = .ref b) ∧ St i s.heap ∧ (∀ j h, St j h → z.it it j h) ∧ ∀ j v, P j v → ∃ x, xs[j]? = some x ∧ RelV x v := by
  cases z with
  | L a =>
    obtain ⟨its, rv, p, _⟩ := I.list q
    have e : its.toArray.size = xs.length := by rw [List.size_toArray, rv.length]
    refine ⟨[a], fun i v => its.toArray[i]? = some v, fun i h => h.IsListIter it a i ∧ h.IsList a its.toArray, by rw [← e]; exact Draws.list (A := X.A.in1) hh it a (hn a rfl) its.toArray, fun b hb => by rw [List.mem_singleton.mp hb]; rfl, ⟨st, p.isList⟩, fun j h k => k.1, fun j v hv => vals_back rv (by simpa using hv)⟩
  | T a =>
    obtain ⟨its, rv, p, _⟩ := I.tuple q
    have e : its.toArray.size = xs.length := by rw [List.size_toArray, rv.length]
    refine ⟨[a], fun i v => its.toArray[i]? = some v, fun i h => h.IsTupleIter it a i ∧ h.IsTuple a its.toArray, by rw [← e]; exact Draws.tuple (A := X.A.in1) hh it a (hn a rfl) its.toArray, fun b hb => by rw [List.mem_singleton.mp hb]; rfl, ⟨st, p⟩, fun j h k => k.1, fun j v hv => vals_back rv (by simpa using hv)⟩
  | S x =>
    obtain ⟨t, st⟩ := st
    have q : xs = x.cps.toList.map fun c => V.str ⟨#[c]⟩ := q
    have e : x.cps.size = xs.length := by rw [q]; simp
    refine ⟨[], fun i v => ∃ c u, x.cps[i]? = some c ∧ v = .str ⟨#[c]⟩ u, fun i h => h.IsStrIter it (strIterType x) x t i, by rw [← e]; exact Draws.text (A := X.A.in1) hh it x t, fun b hb => (by cases hb), st, fun j h k => ⟨t, k⟩, fun j v hv => ?_⟩
    obtain ⟨c, u, hc, rfl⟩ := hv
    refine ⟨.str ⟨#[c]⟩, ?_, ⟨u, rfl⟩⟩
    rw [q, List.getElem?_map]
    have : x.cps.toList[j]? = some c := by simpa using hc
    rw [this]; rfl
theorem Src.inj {z : Src} {xs ys : List V} (I : L2.Inv X pins σ H s) (h : z.has X.K H xs) (h' : z.has X.K H ys) : xs = ys := by
  cases z with
  | L a => exact I.list_inj h h'
  | T a => exact I.tuple_inj h h'
  | S x => exact (show xs = _ from h).trans (show ys = _ from h').symm
theorem Src.lt {z : Src} {xs : List V} (I : L2.Inv X pins σ H s) (q : z.has X.K H xs) : ∀ a, z.val = .ref a → a < s.heap.objs.size := by
  intro a ha
  cases z with
  | L b =>
    cases ha
    obtain ⟨its, rv, p, _⟩ := I.list q
    exact p.lt
  | T b =>
    cases ha
    obtain ⟨its, rv, ⟨o, e, _⟩, _⟩ := I.tuple q
    exact Heap.lt_size e
  | S x => cases ha
/-- iter of it -/
theorem Src.begins {z : Src} {xs : List V} {u : Value} (I : L2.Inv X pins σ H s) (q : z.has X.K H xs) (r : RelV z.val u) :
    ∃ (o : Obj) (G : Heap → Prop), Begins u o G ∧ G s.heap ∧ ∀ (h : Heap) (it : Addr), h.get? it = some o → z.it it 0 h := by
  cases z with
  | L a =>
    cases r
    obtain ⟨its, rv, p, _⟩ := I.list q
    exact ⟨_, _, begins_list a its.toArray, p.isList, fun h it e => ⟨_, e, rfl, rfl⟩⟩
  | T a =>
    cases r
    obtain ⟨its, rv, p, _⟩ := I.tuple q
    exact ⟨_, _, begins_tuple a its.toArray, p, fun h it e => ⟨_, e, rfl, rfl⟩⟩
  | S x =>
    obtain ⟨t, rfl⟩ := r
    exact ⟨_, _, begins_text x t, trivial, fun h it e => ⟨t, _, e, rfl, rfl⟩⟩
end
def ItZ (K : PySem.W.Frag) (y z : Src) : It :=
  ⟨fun i H => ∃ (xs ys : List V) (a b : V), y.has K H xs ∧ z.has K H ys ∧ xs[i]? = some a ∧ ys[i]? = some b,
    fun i H v H' => ∃ T a b, v = .ref T ∧ H T = none ∧ H' = upd H T (.tup [a, b]) ∧ (∀ xs, y.has K H xs → xs[i]? = some a) ∧ ∀ ys, z.has K H ys → ys[i]? = some b,
    fun i H => ∃ xs ys : List V, y.has K H xs ∧ z.has K H ys ∧ i ≤ xs.length ∧ i ≤ ys.length ∧ (i = xs.length ∨ i = ys.length)⟩
theorem turn_zipS {P : Program} {w : World} {K : PySem.W.Frag} {elts : List Expr} {kk : Nat} {tpos : Pos} {N : Nat} {y z : Src} (ly : ∀ a, y.val = .ref a → a < N) (lz : ∀ a, z.val = .ref a → a < N) :
    Turn P w K (.Tuple elts kk tpos) (ItZ K y z) [N + 4, N + 2, N + 3, N, N + 1] (N + 4) (fun i h => IsZip h (N + 4) (N + 2) (N + 3) .none ∧ IsTupOf2 h (N + 2) (.ref N) (.ref (N + 1)) ∧ (∃ a b, IsTupOf2 h (N + 3) a b) ∧ y.it N i h ∧ z.it (N + 1) i h) where
  mem := by simp
  obj := fun i h st c hc => by
    obtain ⟨hz, hTI, ⟨a, b, hTO⟩, h1, h2⟩ := st
    have e' : c = N + 4 ∨ c = N + 2 ∨ c = N + 3 ∨ c = N ∨ c = N + 1 := by simpa using hc
    rcases e' with q | q | q | q | q
    · rw [q]; exact ⟨_, hz, fun v q => nomatch q⟩
    · rw [q]; exact ⟨_, hTI, fun v q => nomatch q⟩
    · rw [q]; exact ⟨_, hTO, fun v q => nomatch q⟩
    · rw [q]; exact Src.obj h1
    · rw [q]; exact Src.obj h2
  keep := fun i h h' st k => by
    obtain ⟨hz, hTI, ⟨a, b, hTO⟩, h1, h2⟩ := st
    exact ⟨k _ (by simp) _ hz, k _ (by simp) _ hTI, ⟨a, b, k _ (by simp) _ hTO⟩, Src.keep h1 fun o q => k N (by simp) o q, Src.keep h2 fun o q => k (N + 1) (by simp) o q⟩
  item := by
    intro X hP hw hK hc i pins s σ H E I hf st hg
    subst hP hw hK
    obtain ⟨hz, hTI, ⟨a0, b0, hTO⟩, h1, h2⟩ := st
    obtain ⟨xs, ys, a, b, hqx, hqy, ha, hb⟩ := hg
    have hh := I.ok.hd hc
    obtain ⟨fp1, P1, St1, D1, f1, s1, b1, p1⟩ := Src.draws hh I hqx h1 (fun c e => Nat.ne_of_lt (ly c e))
    obtain ⟨fp2, P2, St2, D2, f2, s2, b2, p2⟩ := Src.draws hh I hqy h2 (fun c e => Nat.ne_of_lt (Nat.lt_succ_of_lt (lz c e)))
    have S : ZipSep2 (N + 4) (N + 2) (N + 3) N (N + 1) (N :: fp1) ((N + 1) :: fp2) := zip_sep2 (fun c e => ly c (f1 c e)) (fun c e => lz c (f2 c e))
    have hzl : N + 4 < s.heap.objs.size := Heap.lt_size hz
    have l1 : i < xs.length := (List.getElem?_eq_some_iff.mp ha).1
    have l2 : i < ys.length := (List.getElem?_eq_some_iff.mp hb).1
    refine wpAny_pyNext_zipD2_item S D1 D2 hz hTI hTO s1 s2 l1 l2 fun u u2 h' tk hu hu2 z' TO' st1 st2 hT hsz hk => ?_
    obtain ⟨a', ea, ra⟩ := p1 i u hu
    obtain ⟨b', eb, rb⟩ := p2 i u2 hu2
    refine ⟨_, rfl, wpAny_letOwnedTupleGo_zip (s := { s with heap := h', toks := tk }) z' fun h'' z'' sb => ?_⟩
    have hT2 : h''.get? s.heap.objs.size = some { cls := .type "tuple", data := .seq #[u, u2] } := (sb.2 _ (Nat.ne_of_gt (Heap.lt_size hz))).trans hT
    have new : ObjOk X.prog X.w (upd H s.heap.objs.size (.tup [a', b'])) h'' s.heap.objs.size (.tup [a', b']) :=
      ⟨by show 2 ≤ sizeLine; decide, [u, u2], .cons ra (.cons rb .nil), ⟨_, hT2, rfl, _, rfl⟩⟩
    have I1 : L2.Inv X pins σ (upd H s.heap.objs.size (.tup [a', b'])) { s with heap := h'', toks := tk } :=
      I.turnedNew (t' := tk) (ch := [N + 4, N + 2, N + 3, N, N + 1]) (fun c o hb q => (sb.2 c (fun q' => hb (by simp [q']))).trans (hk c o (fun q' => hb (by simp [q'])) (fun q' => hb (by simp [q'])) (fun q' => hb (by simp [q'])) (fun q' => hb (by simp [q'])) q)) hf (Nat.le_refl _) new
    refine ⟨.ref s.heap.objs.size, _, I1, rfl, ⟨_, a', b', rfl, I.hok.fresh (Nat.le_refl _), rfl, fun l hl => by rw [Src.inj I hl hqx]; exact ea, fun l hl => by rw [Src.inj I hl hqy]; exact eb⟩, ⟨z'', ?_, ⟨u, u2, ?_⟩, ?_, ?_⟩, fun c hcm => ?_⟩
    · exact (sb.2 _ S.TIz).trans (hk _ _ S.TIz S.TITO S.TIi1 S.TIi2 hTI)
    · exact (sb.2 _ S.TOz).trans TO'
    · exact Src.keep (b1 _ _ st1) fun o q => (sb.2 _ (Nat.ne_of_lt (Nat.lt_add_of_pos_right (by decide)))).trans q
    · exact Src.keep (b2 _ _ st2) fun o q => (sb.2 _ (Nat.ne_of_lt (Nat.add_lt_add_left (by decide) N))).trans q
    · have hlt : c < s.heap.objs.size := by
        have e' : c = N + 4 ∨ c = N + 2 ∨ c = N + 3 ∨ c = N ∨ c = N + 1 := by simpa using hcm
        have l3 : N + 4 < s.heap.objs.size := Heap.lt_size hz
        rcases e' with q | q | q | q | q
        · rw [q]; exact l3
        · rw [q]; exact Nat.lt_trans (Nat.add_lt_add_left (by decide) N) l3
        · rw [q]; exact Nat.lt_trans (Nat.add_lt_add_left (by decide) N) l3
        · rw [q]; exact Nat.lt_trans (Nat.lt_add_of_pos_right (by decide)) l3
        · rw [q]; exact Nat.lt_trans (Nat.add_lt_add_left (by decide) N) l3
      rw [upd_ne (Nat.ne_of_lt hlt)]
      exact (hf c hcm).1
  done := by
    intro X hP hw hK hc i pins s σ H E I hf st hg
    subst hP hw hK
    obtain ⟨hz, hTI, ⟨a0, b0, hTO⟩, h1, h2⟩ := st
    obtain ⟨xs, ys, hqx, hqy, e1, e2, he⟩ := hg
    have hh := I.ok.hd hc
    obtain ⟨fp1, P1, St1, D1, f1, s1, b1, p1⟩ := Src.draws hh I hqx h1 (fun c e => Nat.ne_of_lt (ly c e))
    obtain ⟨fp2, P2, St2, D2, f2, s2, b2, p2⟩ := Src.draws hh I hqy h2 (fun c e => Nat.ne_of_lt (Nat.lt_succ_of_lt (lz c e)))
    have S : ZipSep2 (N + 4) (N + 2) (N + 3) N (N + 1) (N :: fp1) ((N + 1) :: fp2) := zip_sep2 (fun c e => ly c (f1 c e)) (fun c e => lz c (f2 c e))
    exact wpAny_pyNext_zipD2_end S D1 D2 hz hTI hTO s1 s2 e1 e2 he fun h' tk hk => ⟨rfl, I.turnedL (t' := tk) (ch := [N + 4, N + 2, N + 3, N, N + 1]) (fun c o hb q =>
      hk c o (fun q' => hb (by simp [q'])) (fun q' => hb (by simp [q'])) (fun q' => hb (by simp [q'])) (fun q' => hb (by simp [q'])) q) hf⟩
  self := fun A i s Q E st h => wpAny_pyIter_zip st.1 h
/-- zip(e, e2) -/
def iZipS (K : PySem.W.Frag) (ta : TA) : TI := fun σ H R => ta σ H fun vs H1 => ∃ (y z : Src) (xs ys : List V), vs = [y.val, z.val] ∧ y.has K H1 xs ∧ z.has K H1 ys ∧ R (ItZ K y z) H1
theorem pi_zipS {X : Cx} {e e2 : Expr} {ta : TA} {p pos tpos : Pos} {elts : List Expr} {kk : Nat} (hg : Gl X "zip") (hm : X.mg "zip" = none) (ha : PA X [e, e2] ta)
    (hs : starEach [e, e2] X.env = (false, eval e X.env) :: starEach [e2] X.env := by rfl) (hpl : (backTo pos (starEach [e2] X.env)).any (·.1) = false := by rfl) :
    PI X (.Tuple elts kk tpos) (.Call (.Name "zip" p) [e, e2] [] pos) (iZipS X.K ta) := by
  refine ⟨fun pins s σ H R I h => ?_⟩
  refine Call_ (ld_blt I hg hm PyProof.Rows.boot_zip (PyProof.Rows.callWith_type1 (thn (ha.run pos pins s σ H _ I h) fun us s1 ⟨vs, H1, I1, r1, q1⟩ => ?_) hs hpl))
  obtain ⟨y, z, xs, ys, ex, hqx, hqy, q⟩ := q1
  subst ex
  cases r1 with
  | cons r rr =>
    cases rr with
    | cons r' rr =>
      cases rr
      obtain ⟨o1, G1, B1, g1, k1⟩ := Src.begins I1 hqx r
      obtain ⟨o2, G2, B2, g2, k2⟩ := Src.begins I1 hqy r'
      refine zip_begins2 B1 B2 g1 g2 fun h' hz hTI hTO c1 c2 hsz hk => wpAny_pyIter_zip hz ?_
      have I2 : L2.Inv X pins σ H1 { s1 with heap := h' } := I1.kept (t' := s1.toks) hk
      refine ⟨s1.heap.objs.size + 4, [s1.heap.objs.size + 4, s1.heap.objs.size + 2, s1.heap.objs.size + 3, s1.heap.objs.size, s1.heap.objs.size + 1], _, _, H1, rfl, I2, turn_zipS (Src.lt I1 hqx) (Src.lt I1 hqy), ⟨hz, hTI, ⟨_, _, hTO⟩, k1 _ _ c1, k2 _ _ c2⟩, fun c hcm => ?_, q⟩
      have e' : c = s1.heap.objs.size + 4 ∨ c = s1.heap.objs.size + 2 ∨ c = s1.heap.objs.size + 3 ∨ c = s1.heap.objs.size ∨ c = s1.heap.objs.size + 1 := by simpa using hcm
      have hle : s1.heap.objs.size ≤ c := by rcases e' with q | q | q | q | q <;> rw [q] <;> omega
      exact I1.fpOk hle (I1.hok.fresh hle)
theorem walk_zipS {K : PySem.W.Frag} {y z : Src} {xs ys : List V} (hn : xs.length = ys.length) : Walk (ItZ K y z) xs.length (fun H => y.has K H xs ∧ z.has K H ys) (YPair (fun i => xs[i]?) (fun i => ys[i]?)) := by
  refine ⟨fun i _ hi q => ?_, fun _ q => ⟨xs, ys, q.1, q.2, Nat.le_refl _, by omega, .inl rfl⟩, fun i H v H' _ q y => ?_⟩
  · have h2 : i < ys.length := by omega
    exact ⟨xs, ys, xs[i], ys[i], q.1, q.2, by simp [hi], by simp [h2]⟩
  · obtain ⟨T, x, z, h1, h2, h3, h4, h5⟩ := y
    exact ⟨T, x, z, h1, h2, h3, h4 xs q.1, h5 ys q.2⟩
def ItE (K : PySem.W.Frag) (y : Src) : It :=
  ⟨fun i H => ∃ (xs : List V) (a : V), y.has K H xs ∧ xs[i]? = some a,
    fun i H v H' => ∃ T a, v = .ref T ∧ H T = none ∧ H' = upd H T (.tup [.int (i : Nat), a]) ∧ ∀ xs, y.has K H xs → xs[i]? = some a,
    fun i H => ∃ xs : List V, y.has K H xs ∧ i = xs.length⟩
theorem turn_enumS {P : Program} {w : World} {K : PySem.W.Frag} {elts : List Expr} {kk : Nat} {tpos : Pos} {N : Nat} {y : Src} (ly : ∀ a, y.val = .ref a → a < N) :
    Turn P w K (.Tuple elts kk tpos) (ItE K y) [N + 1, N] (N + 1) (fun i h => (∃ old, IsEnum h (N + 1) N ((i : Nat) : Int) old) ∧ y.it N i h) where
  mem := by simp
  obj := fun i h st b hb => by
    obtain ⟨⟨old, he⟩, h1⟩ := st
    have e' : b = N + 1 ∨ b = N := by simpa using hb
    rcases e' with q | q
    · rw [q]; exact ⟨_, he, fun v q => nomatch q⟩
    · rw [q]; exact Src.obj h1
  keep := fun i h h' st k => by
    obtain ⟨⟨old, he⟩, h1⟩ := st
    exact ⟨⟨old, k _ (by simp) _ he⟩, Src.keep h1 fun o q => k N (by simp) o q⟩
  item := by
    intro X hP hw hK hc i pins s σ H E I hf st hg
    subst hP hw hK
    obtain ⟨⟨old, he⟩, h1⟩ := st
    obtain ⟨xs, a, hqx, ha⟩ := hg
    have hh := I.ok.hd hc
    obtain ⟨fp1, P1, St1, D1, f1, s1, b1, p1⟩ := Src.draws hh I hqx h1 (fun c e => Nat.ne_of_lt (ly c e))
    have hel : N + 1 < s.heap.objs.size := Heap.lt_size he
    have l1 : i < xs.length := (List.getElem?_eq_some_iff.mp ha).1
    have hef : N + 1 ∉ N :: fp1 := fun hm => by
      rcases List.mem_cons.mp hm with e | hm
      · exact Nat.succ_ne_self N e
      · exact absurd (ly _ (f1 _ hm)) (Nat.not_lt.mpr (Nat.le_succ N))
    refine wpAny_pyNext_enum_itemD D1 he s1 l1 (Nat.succ_ne_self N) hef fun u h' tk hu ho st1 hT hsz hk => ?_
    obtain ⟨a', ea, ra⟩ := p1 i u hu
    refine ⟨_, rfl, wpAny_letOwnedTupleGo_enum (s := { s with heap := h', toks := tk + 1 }) ho fun h'' he' sb => ?_⟩
    have hT2 : h''.get? s.heap.objs.size = some { cls := .type "tuple", data := .seq #[.int i tk, u] } := (sb.2 _ (Nat.ne_of_gt (Heap.lt_size he))).trans hT
    have new : ObjOk X.prog X.w (upd H s.heap.objs.size (.tup [.int (i : Nat), a'])) h'' s.heap.objs.size (.tup [.int (i : Nat), a']) :=
      ⟨by show 2 ≤ sizeLine; decide, [.int i tk, u], .cons ⟨_, rfl⟩ (.cons ra .nil), ⟨_, hT2, rfl, _, rfl⟩⟩
    have I1 : L2.Inv X pins σ (upd H s.heap.objs.size (.tup [.int (i : Nat), a'])) { s with heap := h'', toks := tk + 1 } :=
      I.turnedNew (ch := [N + 1, N]) (fun b ob hb q => (sb.2 b (fun z => hb (by simp [z]))).trans (hk b ob (fun z => hb (by simp [z])) (fun z => hb (by simp [z])) q)) hf (Nat.le_refl _) new
    refine ⟨.ref s.heap.objs.size, _, I1, rfl, ⟨_, a', rfl, I.hok.fresh (Nat.le_refl _), rfl, fun ys hy => by rw [Src.inj I hy hqx]; exact ea⟩, ⟨⟨u, ?_⟩, Src.keep (b1 _ _ st1) fun o q => (sb.2 N (Nat.ne_of_lt (Nat.lt_succ_self N))).trans q⟩, fun b hb => ?_⟩
    · have e1 : ((i + 1 : Nat) : Int) = (i : Int) + 1 := by omega
      rw [e1]; exact he'
    · have hb' : b < s.heap.objs.size := by
        have e' : b = N + 1 ∨ b = N := by simpa using hb
        rcases e' with q | q
        · rw [q]; exact hel
        · rw [q]; exact Nat.lt_trans (Nat.lt_succ_self N) hel
      rw [upd_ne (Nat.ne_of_lt hb')]
      exact (hf b hb).1
  done := by
    intro X hP hw hK hc i pins s σ H E I hf st hg
    subst hP hw hK
    obtain ⟨⟨old, he⟩, h1⟩ := st
    obtain ⟨xs, hqx, e⟩ := hg
    have hh := I.ok.hd hc
    obtain ⟨fp1, P1, St1, D1, f1, s1, b1, p1⟩ := Src.draws hh I hqx h1 (fun c e => Nat.ne_of_lt (ly c e))
    obtain ⟨f0, f1', f2, f3, f4, f5⟩ := hf N (by simp)
    exact wpAny_pyNext_enum_endD D1 he (e ▸ s1) fun h' eb => ⟨rfl, I.turned (t' := s.toks) (fun b o hb q => eb b o hb q) f0 f1' f3 f4 f5⟩
  self := fun A i s Q E st h => let ⟨⟨_, he⟩, _⟩ := st; wpAny_pyIter_enum he h
theorem meets_enum1 {v : Value} {o : Obj} {G : Heap → Prop} (B : Begins v o G) :
    Meets (Builtin.«enumerate.__new__» ⟨[.type "enumerate", v], []⟩) (fun _ R s => G s.heap ∧
      R (.ok (.ret (.ref (s.heap.push o).objs.size))) { s with heap := (s.heap.push o).push { cls := .type "enumerate", data := .fields #[.none, .bool false, .ref s.heap.objs.size, rawInt 0, .none, .none] } }) :=
  .of_wp fun prog w A R s h => by
    obtain ⟨hp, g, d, tk, os⟩ := s; obtain ⟨h1, h⟩ := h
    have hsub := sub_enumerate
    have q1 : ∀ {A' : Around} {E : Value → Shared → Prop} {Q : Value → Shared → Prop}, Q (.ref hp.objs.size) ⟨hp.push o, g, d, tk, os⟩ → wpAny (model prog w) A' (pyIter v) Q E ⟨hp, g, d, tk, os⟩ :=
      fun q => B.iter prog w _ _ ⟨hp, g, d, tk, os⟩ _ h1 q
    wp_walk using q1
    refine wpAny_stack_any fun st => wpAny_pure ?_
    split
    · rename_i c _ _ _ _ _
      cases (c == Value.type "enumerate")
      · wp_walk using q1
        exact ⟨_, rfl, h⟩
      · wp_walk using q1
        exact ⟨_, rfl, h⟩
    · wp_walk using q1
      exact ⟨_, rfl, h⟩
theorem enum_begins1 {prog : Program} {w : World} {A : Around} {E : Value → Shared → Prop} {s : Shared} {v : Value} {o : Obj} {G : Heap → Prop} {Q : Value → Shared → Prop} (B : Begins v o G) (h1 : G s.heap)
    (h : ∀ h', IsEnum h' (s.heap.objs.size + 1) s.heap.objs.size 0 .none → h'.get? s.heap.objs.size = some o → h'.objs.size = s.heap.objs.size + 2 →
      (∀ b o, s.heap.get? b = some o → h'.get? b = some o) → Q (.ref (s.heap.objs.size + 1)) { s with heap := h' }) :
    wpAny (model prog w) A (call (.type "enumerate") [v]) Q E s := by
  refine callType_new F.called_enumerate (by decide) (F.typeCall_enumerate_1 _) (F.newCall_enumerate_1 _) (fun obj => F.args_object_init_2 obj _) F.entry_enumerate_new (meets_enum1 B) ⟨h1, ?_⟩
  have hz : (s.heap.push o).objs.size = s.heap.objs.size + 1 := Heap.size_push ..
  show _ ∧ _
  rw [hz]
  have he : IsEnum ((s.heap.push o).push { cls := .type "enumerate", data := .fields #[.none, .bool false, .ref s.heap.objs.size, rawInt 0, .none, .none] }) (s.heap.objs.size + 1) s.heap.objs.size 0 .none := by
    have := Heap.get?_push_size (s.heap.push o) (o := { cls := .type "enumerate", data := .fields #[.none, .bool false, .ref s.heap.objs.size, rawInt 0, .none, .none] }) rfl
    rw [hz] at this; exact this
  exact ⟨⟨_, he, rfl⟩, h _ he (Heap.get?_push_of_some _ (Heap.get?_push_size _ B.free)) (by rw [Heap.size_push, hz]) fun b o x => Heap.get?_push_of_some _ (Heap.get?_push_of_some _ x)⟩
/-- enumerate(e) -/
def iEnumS (K : PySem.W.Frag) (ta : TA) : TI := fun σ H R => ta σ H fun vs H1 => ∃ (y : Src) (xs : List V), vs = [y.val] ∧ y.has K H1 xs ∧ R (ItE K y) H1
theorem pi_enumS {X : Cx} {e : Expr} {ta : TA} {p pos tpos : Pos} {elts : List Expr} {kk : Nat} (hg : Gl X "enumerate") (hm : X.mg "enumerate" = none) (ha : PA X [e] ta) (hs : starEach [e] X.env = [(false, eval e X.env)] := by rfl) :
    PI X (.Tuple elts kk tpos) (.Call (.Name "enumerate" p) [e] [] pos) (iEnumS X.K ta) := by
  refine ⟨fun pins s σ H R I h => ?_⟩
  refine Call_ (ld_blt I hg hm boot_enumerate (PyProof.Rows.callWith_type1 (thn (ha.run pos pins s σ H _ I h) fun us s1 ⟨vs, H1, I1, r1, q1⟩ => ?_) hs rfl))
  obtain ⟨y, xs, ex, hq, q⟩ := q1
  subst ex
  cases r1 with
  | cons r rr =>
    cases rr
    obtain ⟨o1, G1, B1, g1, k1⟩ := Src.begins I1 hq r
    refine enum_begins1 B1 g1 fun h' he c1 hsz hk => wpAny_pyIter_enum he ?_
    have I2 : L2.Inv X pins σ H1 { s1 with heap := h' } := I1.kept (t' := s1.toks) hk
    refine ⟨s1.heap.objs.size + 1, [s1.heap.objs.size + 1, s1.heap.objs.size], _, _, H1, rfl, I2, turn_enumS (Src.lt I1 hq), ⟨⟨.none, he⟩, k1 _ _ c1⟩, fun b hb => ?_, q⟩
    have e' : b = s1.heap.objs.size + 1 ∨ b = s1.heap.objs.size := by simpa using hb
    have hle : s1.heap.objs.size ≤ b := by rcases e' with q | q <;> rw [q] <;> omega
    exact I1.fpOk hle (I1.hok.fresh hle)
theorem walk_enumS {K : PySem.W.Frag} {y : Src} {xs : List V} : Walk (ItE K y) xs.length (fun H => y.has K H xs) (YPair (fun i => some (.int (i : Nat))) (fun i => xs[i]?)) := by
  refine ⟨fun i _ hi q => ⟨xs, xs[i], q, by simp [hi]⟩, fun _ q => ⟨xs, q, rfl⟩, fun i H v H' _ q y => ?_⟩
  obtain ⟨T, x, h1, h2, h3, h4⟩ := y
  exact ⟨T, .int (i : Nat), x, h1, h2, h3, rfl, h4 xs q⟩
end L3
namespace L3
open PySem PySem.Spec PyProof.Rows L2
section
variable {M : Model} {prog : Program} {w : World} {A : Around} {E : Value → Shared → Prop} {s : Shared} {K : PySem.W.Frag} {x C f : Addr} {ox : Obj} {od : Option Obj} {b tb : Value}
theorem ne_entry {Q : PySem.Fin → Shared → Prop} (hu : A.units < cLine) (X : K.In s.heap) (I : PySem.W.InstAt s.heap x ox C od) (hs : PySem.W.findIn K (.ref C) "__eq__" = some (some (.ref f))) (hf : PySem.W.isFn K (.ref f) = true)
    (hcall : wpAny (model prog w) A (call (.ref f) [.ref x, b]) (fun v s' => ∃ z, v = .bool z ∧ Q (.done (.ret (.bool (!z)))) s') E s) :
    wpAny (model prog w) A (Builtin.«object.__ne__» ⟨[.ref x, b], []⟩) Q E s := by
  unfold Builtin.«object.__ne__»
  repeat (first
    | with_reducible refine wpAny_cRoomFor hu ?_
    | (refine wpAny_bind (m := callSpecialIfBound? (.ref x) (Str.ofString "__eq__") [b])
        (PySem.W.ifBound_K X I hs hf (wpAny_mono hcall (fun r s' hr => by
          obtain ⟨b, rfl, hq⟩ := hr
          repeat (first | exact hq | exact wpAny_pure hq | exact wpAny_truthy_bool hq | (refine wpAny_bind (m := truthy (.bool _)) (wpAny_truthy_bool ?_)) | wp_step)) fun _ _ e => e)))
    | wp_step)
theorem ifBound_ne {args : List Value} {Q : Option Value → Shared → Prop} (X : K.In s.heap) (I : PySem.W.InstAt s.heap x ox C od) (hs : PySem.W.findIn K (.ref C) "__ne__" = some (some (.builtin "object.__ne__")))
    (h : wpAny M A (call (.builtin "object.__ne__") (.ref x :: args)) (fun v => Q (some v)) E s) : wpAny M A (callSpecialIfBound? (.ref x) "__ne__" args) Q E s := by
  simp only [callSpecialIfBound?, bindSpecialIfBound?]
  refine wpAny_holding (wpAny_bind (wpAny_bind (wpAny_bind (I.type.here ((PySem.W.looks_findIn X hs).here ?_)))))
  refine wpAny_bind (wpAny_askSetting (wpAny_ite ?_))
  have fin : wpAny M A (call (.builtin "object.__ne__") ([.ref x] ++ args) >>= fun v => pure (some v)) Q E s := wpAny_bind (wpAny_mono h (fun v s' h' => wpAny_pure h') fun _ _ h' => h')
  split
  · exact wpAny_bind (wpAny_of_eq (F.cmp_object.ne.bind _) (wpAny_pure (by exact fin)))
  · exact wpAny_tryCatch (wpAny_bind (wpAny_of_eq (F.cmp_object.ne.bind _) (wpAny_pure (by exact fin))))
theorem rc_ne {Q : Value → Shared → Prop} (hu : A.units + 1 < cLine) (X : K.In s.heap) (I : PySem.W.InstAt s.heap x ox C od) (hb : PySem.W.Looks (model prog w) s.heap (typeOf b) tb) (hn : PySem.W.notFirst K C tb = true)
    (hm : PySem.W.mroIn K C (.type "object") = some true) (hne : PySem.W.findIn K (.ref C) "__ne__" = some (some (.builtin "object.__ne__"))) (hs : PySem.W.findIn K (.ref C) "__eq__" = some (some (.ref f))) (hf : PySem.W.isFn K (.ref f) = true)
    (h : wpAny (model prog w) A.in1 (call (.ref f) [.ref x, b]) (fun v s' => ∃ z, v = .bool z ∧ Q (.bool (!z)) s') E s) : wpAny (model prog w) A (richCompare .NotEq (.ref x) b) Q E s := by
  have one : wpAny (model prog w) A (tryCompare (.ref x) "__ne__" b) (fun r s' => ∃ v, r = some v ∧ Q v s') E s := by
    unfold tryCompare
    refine wpAny_bind (ifBound_ne X I hne (wpAny_call (codeAny_call_builtin F.cmp_object.ne.plain F.cmpEntry_ne (PySem.W.check_slot F.cmpKind_ne F.cmpSplit_ne (I.type.andThen (PySem.W.looks_mroIn X hm)) (F.cmpArgs_ne _ _)
      (ne_entry (A := A.in1) hu X I hs hf (wpAny_mono h (fun v s' hv => ?_) fun _ _ e => e))))))
    obtain ⟨z, rfl, hq⟩ := hv
    first | exact ⟨z, rfl, wpAny_pure ⟨_, rfl, hq⟩⟩ | exact ⟨z, rfl, wpAny_pure (wpAny_pure ⟨_, rfl, hq⟩)⟩ | exact ⟨z, rfl, ⟨_, rfl, hq⟩⟩
  unfold richCompare
  simp only [oneThing_ref]
  refine wpAny_holding (wpAny_bind (wpAny_cRoomFor (Nat.lt_of_succ_lt hu) ?_))
  refine wpAny_bind (I.type.here (wpAny_bind (hb.here ?_)))
  rw [cmpInfo_NotEq]
  dsimp only
  split
  · rename_i q
    have e : PySem.W.subIn K tb (.ref C) = some false := by
      rcases Bool.or_eq_true_iff.mp hn with e | e
      · rw [beq_iff_eq.mp e] at q; simp at q
      · exact beq_iff_eq.mp e
    refine wpAny_bind ((PySem.W.looks_subIn X e).here ?_)
    simp only [Bool.false_eq_true, if_false]
    refine wpAny_bind (wpAny_mono one (fun r s' z => ?_) fun _ _ e => e)
    obtain ⟨v, rfl, hq⟩ := z
    exact wpAny_pure hq
  · refine wpAny_bind (wpAny_pure ?_)
    simp only [Bool.false_eq_true, if_false]
    refine wpAny_bind (wpAny_mono one (fun r s' z => ?_) fun _ _ e => e)
    obtain ⟨v, rfl, hq⟩ := z
    exact wpAny_pure hq
end
section
variable {X : Cx} {C f : Addr} {fd : FuncData} {k : Nat} {sp : Sp} {y : Str}
theorem looks_of {pins : List (Addr × Obj)} {σ : L2.St} {H : Hp} {s : Shared} {x : V} {u t : Value} (I : L2.Inv X pins σ H s) (rx : RelV x u) (ty : TyX X.K H x t) : PySem.W.Looks (model X.prog X.w) s.heap (typeOf u) t := by
  obtain ⟨P, Z, p, _⟩ := kit_of I rx ty
  exact Z.ty _ _ I.kIn p
/-- o == x -/
theorem op_eqOwn (F : FnOkG X.prog X.w X.K X.mg X.base CX0 k f fd ["self", y] sp) (hr : Room k X.A) (hG : X.A.guards = some []) (hb : L2.Binds X.K fd ["self", y] []) (m : Meth X.K C "__eq__" f) :
    OpR X (compareOp .Eq) (fun o x H Q => ∃ a dx fs t, o = .ref a ∧ H a = some (.ins C dx fs) ∧ TyX X.K H x t ∧ PySem.W.notFirst X.K C t = true ∧ sp [.ref a, x] H (fun v H' => ∃ b : Bool, v = .bl b ∧ Q (.bl b) H') E0) := by
  intro pins s σ H o x v u Q I ro rx h
  obtain ⟨a, dx, fs, t, rfl, ha, ty, hn, h⟩ := h
  cases ro
  obtain ⟨mA, O, _⟩ := ins_get I.hok ha
  obtain ⟨od, J, _⟩ := O.look
  obtain ⟨mm, FF⟩ := I.fr
  show wpAny (model X.prog X.w) X.A (richCompare .Eq (.ref a) u) _ _ s
  refine PySem.W.cmp_K (op := .Eq) hr.units0 FF I.ok.mod.kin J (looks_of I rx ty) hn m.at_ m.fn ?_
  refine thn (run_fnG (vs := [.ref a, x]) (us := [.ref a, u]) (ws := [.ref a, u]) (kw := []) F hr hG pass0 I (hb s [.ref a, u] I.kIn rfl) (.cons rfl (.cons rx .nil)) h) fun w s' hq => ?_
  obtain ⟨v, H', I', rv, b, rfl, q⟩ := hq
  cases rv
  exact (show EP X pins σ Q (.bool b) s' from ⟨.bl b, H', I', rfl, q⟩)
/-- o != x -/
theorem op_neOwn (F : FnOkG X.prog X.w X.K X.mg X.base CX0 k f fd ["self", y] sp) (hr : Room (k + 1) X.A) (hG : X.A.guards = some []) (hb : L2.Binds X.K fd ["self", y] []) (m : Meth X.K C "__eq__" f)
    (hm : PySem.W.mroIn X.K C (.type "object") = some true) (hne : PySem.W.findIn X.K (.ref C) "__ne__" = some (some (.builtin "object.__ne__"))) :
    OpR X (compareOp .NotEq) (fun o x H Q => ∃ a dx fs t, o = .ref a ∧ H a = some (.ins C dx fs) ∧ TyX X.K H x t ∧ PySem.W.notFirst X.K C t = true ∧ sp [.ref a, x] H (fun v H' => ∃ b : Bool, v = .bl b ∧ Q (.bl (!b)) H') E0) := by
  intro pins s σ H o x v u Q I ro rx h
  obtain ⟨a, dx, fs, t, rfl, ha, ty, hn, h⟩ := h
  cases ro
  obtain ⟨mA, O, _⟩ := ins_get I.hok ha
  obtain ⟨od, J, _⟩ := O.look
  show wpAny (model X.prog X.w) X.A (richCompare .NotEq (.ref a) u) _ _ s
  have hu := hr.units
  refine rc_ne (by omega) I.kIn J (looks_of I rx ty) hn hm hne m.at_ m.fn ?_
  refine run_own (vs := [.ref a, x]) (us := [.ref a, u]) F hr hG hb I (.cons rfl (.cons rx .nil)) h fun w s' hq => ?_
  obtain ⟨v, H', I', rv, b, rfl, q⟩ := hq
  cases rv
  exact ⟨b, rfl, .bl (!b), H', I', rfl, q⟩
end
end L3
namespace L3
open PySem PySem.Spec PyProof.Rows L2
/-- numbers as values -/
def nV (l : List Nat) : List V := l.map fun (n : Nat) => V.int (n : Int)
mutual
theorem Dp.same {K : PySem.W.Frag} {H H' : Hp} (s : Same H H') : ∀ {v : V} {d : PyData}, Dp K H v d → Dp K H' v d
  | _, _, .non => .non
  | _, _, .bl b => .bl b
  | _, _, .int i => .int i
  | _, _, .str x => .str x
  | _, _, .lst h a => .lst (sq_same h s) (DpAll.same s a)
  | _, _, .tup h a => .tup (h.elim (fun h => .inl (h.elim (fun h => .inl (s _ _ h)) fun ⟨o, h⟩ => .inr ⟨o, s _ _ h⟩)) fun h => .inr h) (DpAll.same s a)
theorem DpAll.same {K : PySem.W.Frag} {H H' : Hp} (s : Same H H') : ∀ {vs : List V} {ds : List PyData}, DpAll K H vs ds → DpAll K H' vs ds
  | _, _, .nil => .nil
  | _, _, .cons a b => .cons (Dp.same s a) (DpAll.same s b)
end
theorem sqT_same {K : PySem.W.Frag} {a : Addr} {xs : List V} {H H' : Hp} (h : SqT K H a xs) (s : Same H H') : SqT K H' a xs :=
  h.elim (fun h => .inl (h.elim (fun h => .inl (s _ _ h)) fun ⟨o, h⟩ => .inr ⟨o, s _ _ h⟩)) fun h => .inr h
section
variable {K : PySem.W.Frag} {H : Hp}
theorem dp_tuple {v : V} {ds : List PyData} (h : Dp K H v (.tuple ds)) : ∃ a xs, v = .ref a ∧ SqT K H a xs ∧ DpAll K H xs ds := by
  cases h with
  | tup h a => exact ⟨_, _, rfl, h, a⟩
theorem dp_str {v : V} {x : Str} (h : Dp K H v (.str x)) : v = .str x := by cases h; rfl
theorem dpAll_len : ∀ {xs : List V} {ds : List PyData}, DpAll K H xs ds → xs.length = ds.length
  | _, _, .nil => rfl
  | _, _, .cons _ t => by rw [List.length_cons, List.length_cons, dpAll_len t]
theorem dpAll_back : ∀ {xs : List V} {ds : List PyData} {i : Nat} {x : V}, DpAll K H xs ds → xs[i]? = some x → ∃ d, ds[i]? = some d ∧ Dp K H x d
  | _, _, _, _, .nil, e => by simp at e
  | _, _, 0, _, .cons h _, e => by simp at e; subst e; exact ⟨_, rfl, h⟩
  | _, _, i + 1, x, .cons _ t, e => by
    obtain ⟨d, h1, h2⟩ := dpAll_back (i := i) (x := x) t (by simpa using e)
    exact ⟨d, by simpa using h1, h2⟩
theorem dpAll_app : ∀ {xs ys : List V} {ds es : List PyData}, DpAll K H xs ds → DpAll K H ys es → DpAll K H (xs ++ ys) (ds ++ es)
  | _, _, _, _, .nil, b => b
  | _, _, _, _, .cons h t, b => .cons h (dpAll_app t b)
end
/-- a list or a tuple with these items -/
def Sq (K : PySem.W.Frag) (H : Hp) (v : V) (xs : List V) : Prop := ∃ a, v = .ref a ∧ (SqL K H a xs ∨ SqT K H a xs)
theorem Sq.same {K : PySem.W.Frag} {H H' : Hp} {v : V} {xs : List V} (h : Sq K H v xs) (s : Same H H') : Sq K H' v xs := by
  obtain ⟨a, e, h⟩ := h
  exact ⟨a, e, h.elim (fun h => .inl (sq_same h s)) fun h => .inr (sqT_same h s)⟩
/-- the iterator of a list or a tuple -/
def iSq (K : PySem.W.Frag) (tl : TE) : TI := fun σ H R => tl σ H fun x H1 => ∃ xs H0, Sq K H0 x xs ∧ Same H0 H1 ∧ ∀ J G, Walk J xs.length G (YAt xs) → (∀ H', Same H0 H' → G H') → R J H1
theorem pi_sq {X : Cx} {tg l : Expr} {tl : TE} (hl : PE X l tl) : PI X tg l (iSq X.K tl) := by
  refine ⟨fun pins s σ H R I h => ?_⟩
  refine thn (hl.run pins s σ H _ I h) fun v s1 ⟨x, H1, I1, r1, q1⟩ => ?_
  obtain ⟨xs, H0, ⟨a, e, hq⟩, sm, q⟩ := q1
  subst e
  cases r1
  have fresh : ∀ b, b ∈ [s1.heap.objs.size] → FpOk X pins H1 b := fun b hb => by
    have e : b = s1.heap.objs.size := by simpa using hb
    subst e
    exact I1.fpOk (Nat.le_refl _) (I1.hok.fresh (Nat.le_refl _))
  rcases hq with hq | hq
  · obtain ⟨its, rv, p, hz⟩ := I1.list (sq_same hq sm)
    refine wpAny_pyIter_list p.isList ?_
    exact ⟨s1.heap.objs.size, [s1.heap.objs.size], _, _, H1, rfl, I1.kept (t' := s1.toks) fun b o e => Heap.get?_push_of_some _ e, turn_list a _, ⟨_, Heap.get?_push_size _ rfl, rfl, rfl⟩, fresh, q _ _ walk_list fun H' s' => sq_same hq s'⟩
  · obtain ⟨its, rv, p, hz⟩ := I1.tuple (sqT_same hq sm)
    refine wpAny_pyIter_tuple p ?_
    exact ⟨s1.heap.objs.size, [s1.heap.objs.size], _, _, H1, rfl, I1.kept (t' := s1.toks) fun b o e => Heap.get?_push_of_some _ e, turn_tuple a _, ⟨_, Heap.get?_push_size _ rfl, rfl, rfl⟩, fresh, q _ _ walk_tup fun H' s' => sqT_same hq s'⟩
/-- as what zip or enumerate walks -/
theorem sq_src {K : PySem.W.Frag} {H : Hp} {v : V} {xs : List V} (h : Sq K H v xs) : ∃ y : Src, v = y.val ∧ ∀ H', Same H H' → y.has K H' xs := by
  obtain ⟨a, rfl, h | h⟩ := h
  · exact ⟨.L a, rfl, fun H' s => sq_same h s⟩
  · exact ⟨.T a, rfl, fun H' s => sqT_same h s⟩
structure Wt (d : PyData) (w k : Nat) : Prop where
  s : d.showable = true
  l : d.leavesShort 10 = true
  c : d.canLay0 = true
  w : d.weight ≤ w
  p : d.depth ≤ k
theorem Wt.shw {d : PyData} {w k : Nat} (h : Wt d w k) (hw : w ≤ 1048576) (hk : k ≤ 50) : Shw d :=
  ⟨h.s, PyData.shown_fits (B := 10) (by decide) (by decide) h.l (Nat.le_trans h.w (Nat.le_trans hw (by decide))), Nat.le_trans h.p hk⟩
theorem Wt.shaped {d : PyData} {w k : Nat} (h : Wt d w k) (hk : k ≤ 64) : SeqAt.shaped d = true := by
  show (d.canLay0 && decide (d.depth ≤ 64)) = true
  rw [h.c, decide_eq_true (Nat.le_trans h.p hk)]
  rfl
theorem Wt.mono {d : PyData} {w k w' k' : Nat} (h : Wt d w k) (hw : w ≤ w') (hk : k ≤ k') : Wt d w' k' := ⟨h.s, h.l, h.c, Nat.le_trans h.w hw, Nat.le_trans h.p hk⟩
theorem wt_all {w k : Nat} : ∀ {ds : List PyData}, (∀ d ∈ ds, Wt d w k) → PyData.showableAll ds = true ∧ PyData.leavesShortAll 10 ds = true ∧ PyData.canLayAll0 ds = true ∧ PyData.weightAll ds ≤ (w + 1) * ds.length ∧ PyData.depthAll ds ≤ k
  | [], _ => ⟨rfl, rfl, rfl, Nat.zero_le _, Nat.zero_le _⟩
  | d :: ds, h => by
    have h1 := h d List.mem_cons_self
    obtain ⟨a, b, c, e, f⟩ := wt_all (ds := ds) fun x hx => h x (List.mem_cons_of_mem _ hx)
    refine ⟨?_, ?_, ?_, ?_, ?_⟩
    · show (PyData.showable d && PyData.showableAll ds) = true
      rw [h1.s, a]; rfl
    · show (PyData.leavesShort 10 d && PyData.leavesShortAll 10 ds) = true
      rw [h1.l, b]; rfl
    · show (PyData.canLay0 d && PyData.canLayAll0 ds) = true
      rw [h1.c, c]; rfl
    · show PyData.weight d + 1 + PyData.weightAll ds ≤ _
      have := h1.w
      rw [List.length_cons, Nat.mul_succ]
      omega
    · show max (PyData.depth d) (PyData.depthAll ds) ≤ k
      exact Nat.max_le.mpr ⟨h1.p, f⟩
theorem Wt.list {w k n : Nat} {ds : List PyData} (h : ∀ d ∈ ds, Wt d w k) (hn : ds.length ≤ n) : Wt (.list ds) ((w + 1) * n) (k + 1) := by
  obtain ⟨a, b, c, e, f⟩ := wt_all h
  have hm : (w + 1) * ds.length ≤ (w + 1) * n := Nat.mul_le_mul_left _ hn
  exact ⟨by simpa only [PyData.showable] using a, by simpa only [PyData.leavesShort] using b, by simpa only [PyData.canLay0] using c, by simp only [PyData.weight]; omega, by simp only [PyData.depth]; omega⟩
theorem Wt.tuple {w k n : Nat} {ds : List PyData} (h : ∀ d ∈ ds, Wt d w k) (hn : ds.length ≤ n) : Wt (.tuple ds) ((w + 1) * n) (k + 1) := by
  obtain ⟨a, b, c, e, f⟩ := wt_all h
  have hm : (w + 1) * ds.length ≤ (w + 1) * n := Nat.mul_le_mul_left _ hn
  exact ⟨by simpa only [PyData.showable] using a, by simpa only [PyData.leavesShort] using b, by simpa only [PyData.canLay0] using c, by simp only [PyData.weight]; omega, by simp only [PyData.depth]; omega⟩
theorem Wt.non : Wt .none 0 0 := ⟨rfl, rfl, rfl, by simp [PyData.weight], by simp [PyData.depth]⟩
theorem Wt.bool (b : Bool) : Wt (.bool b) 0 0 := ⟨rfl, rfl, rfl, by simp [PyData.weight], by simp [PyData.depth]⟩
theorem Wt.int {n : Int} (h : n.natAbs < 1000000000) : Wt (.int n) 30 0 := by
  have hlog : n.natAbs.log2 < 30 := by
    by_cases e : n.natAbs = 0
    · rw [e]; decide
    · exact (Nat.log2_lt e).mpr (Nat.lt_trans h (by decide))
  refine ⟨?_, ?_, rfl, ?_, by simp [PyData.depth]⟩
  · simp only [PyData.showable, decide_eq_true_eq]; omega
  · simp only [PyData.leavesShort, decide_eq_true_eq]
    have e := int_text_length_le10 (a := n) (k := 9) (by decide) h
    simp only [PyData.shown]
    rw [PySem.ofString_length]
    omega
  · simp only [PyData.weight]; split <;> omega
theorem Wt.nat {n : Nat} (h : n < 1000000000) : Wt (.int (n : Int)) 30 0 := Wt.int (by omega)
theorem Wt.text {l : List Nat} {n : Nat} (h : ∀ c ∈ l, c < 1114112) (hn : l.length ≤ n) : Wt (.str (tS l)) n 0 := by
  refine ⟨rfl, ?_, ?_, by simpa [PyData.weight, tS] using hn, by simp [PyData.depth]⟩
  · simp only [PyData.leavesShort, List.all_eq_true, decide_eq_true_eq]
    intro c hc
    have := h c (by simpa [tS] using hc)
    have e : 16 ^ 8 = 4294967296 := by decide
    omega
  · show PyData.strOk (tS l) = true
    unfold PyData.strOk
    rw [Array.all_eq_true_iff_forall_mem]
    intro c hc
    exact decide_eq_true (h c (by simpa [tS] using hc))
theorem eqv_map {α : Type} [DecidableEq α] (f : α → PyData) (hf : ∀ a b, PyData.eqv (f a) (f b) = decide (a = b)) : ∀ l m : List α, PyData.eqvAll (l.map f) (m.map f) = decide (l = m)
  | [], [] => by simp [PyData.eqvAll]
  | [], b :: m => by simp [PyData.eqvAll]
  | a :: l, [] => by simp [PyData.eqvAll]
  | a :: l, b :: m => by
    show (PyData.eqv (f a) (f b) && PyData.eqvAll (l.map f) (m.map f)) = _
    rw [hf, eqv_map f hf l m]
    by_cases h1 : a = b
    · by_cases h2 : l = m
      · subst h1 h2; simp
      · simp [h2]
    · simp [h1]
end L3
namespace L3
open PySem PySem.Spec PyProof.Rows L2
def mk2 {α : Type} : List α → List α → List α
  | [s], [w, v] => [s, v, w]
  | _, _ => []
theorem mk2_rel {vs : List V} {us : List Value} {zs : List V} {ws : List Value} (r : Vals vs us) (t : Vals zs ws) : Vals (mk2 vs zs) (mk2 us ws) := by
  match vs, us, zs, ws, r, t with
  | _, _, _, _, .nil, .nil => exact .nil
  | _, _, _, _, .nil, .cons _ _ => exact .nil
  | _, _, _, _, .cons a .nil, .nil => exact .nil
  | _, _, _, _, .cons a .nil, .cons b .nil => exact .nil
  | _, _, _, _, .cons a .nil, .cons b (.cons c .nil) => exact .cons a (.cons c (.cons b .nil))
  | _, _, _, _, .cons a .nil, .cons b (.cons c (.cons _ _)) => exact .nil
  | _, _, _, _, .cons a (.cons _ _), .nil => exact .nil
  | _, _, _, _, .cons a (.cons _ _), .cons b _ => exact .nil
end L3
namespace L3
open PySem PySem.Spec PyProof.Rows L2
/-- without what stands at D -/
def del (H : Hp) (D : Addr) : Hp := fun b => if b = D then none else H b
theorem del_ne {H : Hp} {D b : Addr} (h : b ≠ D) : del H D b = H b := by unfold del; rw [if_neg h]
/-- data does not look at instances -/
theorem sqL_del {K : PySem.W.Frag} {H : Hp} {x C dx a : Addr} {fs : List (Str × V)} {xs : List V} (hx : H x = some (.ins C dx fs)) (h : SqL K H a xs) : SqL K (del H x) a xs := by
  rcases h with (h | ⟨o, h⟩) | h
  · exact .inl (.inl (by rw [del_ne (ne_of h hx (by intro z; cases z))]; exact h))
  · exact .inl (.inr ⟨o, by rw [del_ne (ne_of h hx (by intro z; cases z))]; exact h⟩)
  · exact .inr h
theorem sqT_del {K : PySem.W.Frag} {H : Hp} {x C dx a : Addr} {fs : List (Str × V)} {xs : List V} (hx : H x = some (.ins C dx fs)) (h : SqT K H a xs) : SqT K (del H x) a xs := by
  rcases h with (h | ⟨o, h⟩) | h
  · exact .inl (.inl (by rw [del_ne (ne_of h hx (by intro z; cases z))]; exact h))
  · exact .inl (.inr ⟨o, by rw [del_ne (ne_of h hx (by intro z; cases z))]; exact h⟩)
  · exact .inr h
mutual
theorem dp_del {K : PySem.W.Frag} {H : Hp} {x C dx : Addr} {fs : List (Str × V)} (hx : H x = some (.ins C dx fs)) : ∀ {v : V} {d : PyData}, Dp K H v d → Dp K (del H x) v d
  | _, _, .non => .non
  | _, _, .bl b => .bl b
  | _, _, .int i => .int i
  | _, _, .str x => .str x
  | _, _, .lst h a => .lst (sqL_del hx h) (dpAll_del hx a)
  | _, _, .tup h a => .tup (sqT_del hx h) (dpAll_del hx a)
theorem dpAll_del {K : PySem.W.Frag} {H : Hp} {x C dx : Addr} {fs : List (Str × V)} (hx : H x = some (.ins C dx fs)) : ∀ {vs : List V} {ds : List PyData}, DpAll K H vs ds → DpAll K (del H x) vs ds
  | _, _, .nil => .nil
  | _, _, .cons a b => .cons (dp_del hx a) (dpAll_del hx b)
end
theorem del_at (H : Hp) (D : Addr) : del H D D = none := by unfold del; rw [if_pos rfl]
end L3
namespace L3
open PySem PySem.Spec PyProof.Rows L2
section
variable {X : Cx} {K : PySem.W.Frag}
theorem call_len_seqK (h : X.K = K) : CallR X (.builtin "len") (fun xs H Q => ∃ p ys, xs = [.ref p] ∧ (SqL K H p ys ∨ SqT K H p ys) ∧ Q (.int ys.length) H) := h ▸ call_len_seq
theorem call_tuple_ofK (h : X.K = K) : CallR X (.type "tuple") (fun xs H Q => ∃ p ys, xs = [.ref p] ∧ ((SqL K H p ys ∧ ∀ l, H l = none → Q (.ref l) (upd H l (.tup ys))) ∨ (SqT K H p ys ∧ Q (.ref p) H))) := h ▸ call_tuple_of
theorem op_eqDK (h : X.K = K) (hu : X.A.units + 64 < cLine) : OpR X (compareOp .Eq) (rEqD K) := h ▸ op_eqD hu
theorem op_neDK (h : X.K = K) (hu : X.A.units + 64 < cLine) : OpR X (compareOp .NotEq) (rNeD K) := h ▸ op_neD hu
theorem pi_listK {tg l : Expr} {tl : TE} (h : X.K = K) (hl : PE X l tl) : PI X tg l (iList K tl) := h ▸ pi_list hl
theorem pi_tupK {tg l : Expr} {tl : TE} (h : X.K = K) (hl : PE X l tl) : PI X tg l (iTup K tl) := h ▸ pi_tup hl
theorem pg_tupK {es : List Expr} {k : Nat} {pos : Pos} {t : TGs} {n : Nat} (h : X.K = K) (hc : X.calm = true) (hp : PGs X es t)
    (hn : (assignEach es X.env).length = n) (hst : (assignEach es X.env).findIdx? (·.1) = none := by rfl) : PG X (.Tuple es k pos) (gTup K n t) := h ▸ pg_tup hc hp hn hst
variable {C f : Addr} {fd : FuncData} {k : Nat} {sp : Sp} {y : Str}
theorem op_eqOwnK (h : X.K = K) (F : FnOkG X.prog X.w X.K X.mg X.base CX0 k f fd ["self", y] sp) (hr : Room k X.A) (hG : X.A.guards = some []) (hb : L2.Binds X.K fd ["self", y] []) (m : Meth X.K C "__eq__" f) :
    OpR X (compareOp .Eq) (fun o x H Q => ∃ a dx fs t, o = .ref a ∧ H a = some (.ins C dx fs) ∧ TyX K H x t ∧ PySem.W.notFirst K C t = true ∧ sp [.ref a, x] H (fun v H' => ∃ b : Bool, v = .bl b ∧ Q (.bl b) H') E0) := by
  subst h; exact op_eqOwn F hr hG hb m
theorem op_neOwnK (h : X.K = K) (F : FnOkG X.prog X.w X.K X.mg X.base CX0 k f fd ["self", y] sp) (hr : Room (k + 1) X.A) (hG : X.A.guards = some []) (hb : L2.Binds X.K fd ["self", y] []) (m : Meth X.K C "__eq__" f)
    (hm : PySem.W.mroIn X.K C (.type "object") = some true) (hne : PySem.W.findIn X.K (.ref C) "__ne__" = some (some (.builtin "object.__ne__"))) :
    OpR X (compareOp .NotEq) (fun o x H Q => ∃ a dx fs t, o = .ref a ∧ H a = some (.ins C dx fs) ∧ TyX K H x t ∧ PySem.W.notFirst K C t = true ∧ sp [.ref a, x] H (fun v H' => ∃ b : Bool, v = .bl b ∧ Q (.bl (!b)) H') E0) := by
  subst h; exact op_neOwn F hr hG hb m hm hne
end
end L3
namespace L3
open PySem PySem.Spec PyProof.Rows L2
end L3
namespace L3
open PySem PySem.Spec PyProof.Rows L2
end L3
namespace L3
open PySem PySem.Spec PyProof.Rows L2 Builtin Builtin.ObjectAttr
/-- what stands around a run -/
structure ErrW (K : PySem.W.Frag) (mg : Str → Option Value) (h : Heap) : Prop where
  kin : K.In h
  glob : h.Ns mainGlobals mg
  blt : ∃ mb, h.Ns builtinsNs mb ∧ mb "super" = some (.type "super")
section
variable {P : Program} {w : World} {A : Around} {E : Value → Shared → Prop} {K : PySem.W.Frag} {mg : Str → Option Value} {C fI : Addr} {B newId initId : String} {bmB : List Value} {ps : List Str} {params : Arguments} {body : List Stmt} {scope : Scope}
theorem ErrW.keeps {h h' : Heap} (W : ErrW K mg h) (k : ∀ b o, h.get? b = some o → h'.get? b = some o) : ErrW K mg h' := by
  obtain ⟨mb, h1, h2⟩ := W.blt
  exact ⟨W.kin.keeps k, W.glob.keeps k, mb, h1.keeps k, h2⟩
end
end L3
namespace L3
open PySem PySem.Spec PyProof.Rows L2
end L3
namespace L3
open PySem PySem.Spec PyProof.Rows L2
open MeetsSeq MeetsSeq2 MeetsSeq3 SeqRoads2
open AutoSeq1 (wpAny_loadPart')
/-- x == y answers b, and nothing changes -/
def EqStep (X : Cx) (H : Hp) (x y : V) (b : Bool) : Prop := ∀ (pins : List (Addr × Obj)) (s : Shared) (σ : L2.St) (H' : Hp) (u v : Value) (Q : Bool → Shared → Prop) (E' : Value → Shared → Prop), L2.Inv X pins σ H' s → Same H H' → RelV x u → RelV y v →
  (∀ H'' s', L2.Inv X pins σ H'' s' → Same H' H'' → Q b s') → wpAny (model X.prog X.w) X.A.in1 (eqBool u v) Q E' s
section
variable {X : Cx} {C f : Addr} {fd : FuncData} {k : Nat} {sp : Sp} {y : Str}
theorem EqStep.own {H : Hp} {a b : Addr} {z : Bool} (F : FnOkG X.prog X.w X.K X.mg X.base CX0 k f fd ["self", y] sp) (hr : Room (k + 1) X.A) (hG : X.A.guards = some []) (hb : L2.Binds X.K fd ["self", y] []) (m : Meth X.K C "__eq__" f) (hne : a ≠ b)
    (hn : PySem.W.notFirst X.K C (.ref C) = true) (h : ∀ H', Same H H' → (∃ dx fs, H' a = some (.ins C dx fs)) ∧ (∃ dx fs, H' b = some (.ins C dx fs)) ∧ sp [.ref a, .ref b] H' (fun v H'' => v = .bl z ∧ Same H' H'') E0) : EqStep X H (.ref a) (.ref b) z := by
  intro pins s σ H' u v Q E' I sm r1 r2 hQ
  cases r1
  cases r2
  obtain ⟨⟨dx, fs, ha⟩, ⟨dy, gs, hb'⟩, h⟩ := h H' sm
  obtain ⟨mA, O, _⟩ := ins_get I.hok ha
  obtain ⟨od, J, _⟩ := O.look
  obtain ⟨mB, O2, _⟩ := ins_get I.hok hb'
  obtain ⟨od2, J2, _⟩ := O2.look
  obtain ⟨mm, FF⟩ := I.fr
  unfold eqBool
  refine wpAny_holding ?_
  refine wpAny_ite_split (fun hab => absurd (by have := eq_of_beq hab; injection this) hne) (fun _ => ?_)
  refine wpAny_bind ?_
  have hu := hr.units
  refine PySem.W.cmp_K (op := .Eq) (by show X.A.units + 1 < cLine; omega) FF I.ok.mod.kin J J2.type hn m.at_ m.fn ?_
  refine run_own (vs := [.ref a, .ref b]) (us := [.ref a, .ref b]) F hr hG hb I (.cons rfl (.cons rfl .nil)) h fun w s' hq => ?_
  obtain ⟨v, H2, I2, rv, rfl, sm2⟩ := hq
  cases rv
  exact (show wpAny _ _ (truthy (.bool z)) _ _ _ from wpAny_truthy_bool (hQ H2 s' I2 sm2))
end
end L3
namespace L3
open PySem PySem.Spec PyProof.Rows L2
/-- each list whose repr is under way holds an own object -/
def GOk (H : Hp) (g : List Code) : Prop := ∀ id v rest kw, Code.builtin id ⟨v :: rest, kw⟩ ∈ g → ∃ (l m C dx : Addr) (xs : List V) (fs : List (Str × V)), v = .ref l ∧ H l = some (.lst xs) ∧ V.ref m ∈ xs ∧ H m = some (.ins C dx fs)
theorem GOk.nil (H : Hp) : GOk H [] := fun _ _ _ _ h => nomatch h
theorem GOk.same {H H' : Hp} {g : List Code} (h : GOk H g) (s : Same H H') : GOk H' g := fun id v rest kw hm => by
  obtain ⟨l, m, C, dx, xs, fs, h1, h2, h3, h4⟩ := h id v rest kw hm
  exact ⟨l, m, C, dx, xs, fs, h1, s _ _ h2, h3, s _ _ h4⟩
theorem GOk.cons {H : Hp} {g : List Code} {id : String} {rest : List Value} {kw : List (Str × Value)} {l m C dx : Addr} {xs : List V} {fs : List (Str × V)} (h : GOk H g) (h2 : H l = some (.lst xs)) (h3 : V.ref m ∈ xs) (h4 : H m = some (.ins C dx fs)) : GOk H (.builtin id ⟨.ref l :: rest, kw⟩ :: g) := fun id' v' rest' kw' hm => by
  rcases List.mem_cons.mp hm with e | hm
  · cases e
    exact ⟨l, m, C, dx, xs, fs, rfl, h2, h3, h4⟩
  · exact h _ _ _ _ hm
theorem reads_mem {h : Heap} : ∀ {vs : List Value} {ds : List PyData} {as : List Addr}, ReadsAll h vs ds as → ∀ v ∈ vs, ∃ d as', Reads h v d as'
  | _, _, _, .nil, v, hv => nomatch hv
  | _, _, _, .cons r rs, v, hv => by
    rcases List.mem_cons.mp hv with rfl | hv
    · exact ⟨_, _, r⟩
    · exact reads_mem rs v hv
theorem vals_mem : ∀ {xs : List V} {us : List Value}, Vals xs us → ∀ {m : Addr}, V.ref m ∈ xs → Value.ref m ∈ us
  | _, _, .nil, m, h => nomatch h
  | _, _, .cons r t, m, h => by
    rcases List.mem_cons.mp h with e | h
    · subst e
      cases r
      exact List.mem_cons_self
    · exact List.mem_cons_of_mem _ (vals_mem t h)
section
variable {X : Cx} {pins : List (Addr × Obj)} {σ : L2.St} {H : Hp} {s : Shared} {g : List Code}
/-- what can be read as data is none of these lists -/
theorem gok_clear (I : L2.Inv X pins σ H s) (hg : GOk H g) {b : Addr} {d : PyData} {as : List Addr} (r : Reads s.heap (.ref b) d as) : Clear g b := fun id v rest kw hm z => by
  obtain ⟨l, m, C, dx, xs, fs, h1, h2, h3, h4⟩ := hg id v rest kw hm
  rw [h1] at z
  obtain rfl := Value.ref.inj z
  obtain ⟨_, its, n, rv, hl⟩ := I.hok _ _ h2
  obtain ⟨mA, O, _⟩ := ins_get I.hok h4
  have hm' := vals_mem rv h3
  have hmo : s.heap.get? m = some (PySem.W.instObj C dx) := by
    obtain ⟨_, _, _, q, _⟩ := I.hok _ _ h4
    exact q
  cases r with
  | list q1 q2 q3 q4 =>
    rw [hl] at q1
    cases q1
    have e3 : Data.seq its.toArray n = Data.seq _ _ := q3
    cases e3
    obtain ⟨d', as', r'⟩ := reads_mem q4 (.ref m) (by simpa using hm')
    cases r' with
    | list w1 w2 _ _ => rw [hmo] at w1; cases w1; cases w2
    | tuple w1 w2 _ _ => rw [hmo] at w1; cases w1; cases w2
    | dict w1 w2 _ _ _ => rw [hmo] at w1; cases w1; cases w2
  | tuple q1 q2 q3 q4 => rw [hl] at q1; cases q1; exact absurd (Value.type.inj q2) (by decide)
  | dict q1 q2 q3 q4 q5 => rw [hl] at q1; cases q1; exact absurd (Value.type.inj q2) (by decide)
end
/-- an around that stands under X.A, with the guards g -/
structure AIn (X : Cx) (k : Nat) (g : List Code) (A : Around) : Prop where
  room : Room k A
  gd : A.guards = some g
  env : ∀ {pins : List (Addr × Obj)} {σ : L2.St} {H : Hp} {s : Shared}, L2.Inv X pins σ H s → Env0 X.prog X.w X.K X.mg X.base A X.stack s H
theorem AIn.base {X : Cx} {k : Nat} {g : List Code} (hr : Room k X.A) (hg : X.A.guards = some g) : AIn X k g X.A := ⟨hr, hg, fun I => I.env0⟩
theorem AIn.in1 {X : Cx} {k : Nat} {g : List Code} {A : Around} (h : AIn X (k + 1) g A) : AIn X k g A.in1 := ⟨h.room.in1, h.gd, fun I => (h.env I).in1⟩
theorem AIn.mono {X : Cx} {j k : Nat} {g : List Code} {A : Around} (h : AIn X k g A) (hj : j ≤ k) : AIn X j g A := ⟨h.room.mono hj, h.gd, h.env⟩
/-- repr(x) is t, and nothing changes -/
def ReprStep (X : Cx) (k : Nat) (H : Hp) (x : V) (t : Str) : Prop := ∀ (base : Nat) (A : Around) (g : List Code) (pins : List (Addr × Obj)) (s : Shared) (σ : L2.St) (H' : Hp) (u : Value) (Q : Str → Shared → Prop) (E' : Value → Shared → Prop), base + t.length ≤ sizeLine → AIn X k g A → GOk H' g → L2.Inv X pins σ H' s → Same H H' → RelV x u →
  (∀ H'' s', L2.Inv X pins σ H'' s' → Same H' H'' → Q t s') → wpAny (model X.prog X.w) A (pyReprUnder base u) Q E' s
section
variable {X : Cx} {k : Nat} {H : Hp}
theorem ReprStep.data {x : V} {d : PyData} (hd : Dp X.K H x d) (hs : d.showable = true) (hz : d.shown.length ≤ sizeLine) (hp : d.depth ≤ 50) : ReprStep X k H x d.shown := by
  intro base A g pins s σ H' u Q E' hb hA hg I sm rx hQ
  have hd' := Dp.same sm hd
  obtain ⟨as, r⟩ := Dp.reads I d x u hd' rx
  obtain ⟨bs, hbs, hk⟩ := ReprK.of_reads (prog := X.prog) (w := X.w) r hs (PyData.noDict_hsm (dp_noDict (K := X.K) (H := H') hd')) hz
  have hu := hA.room.units
  refine hk base hb A g E' s Q hA.gd (fun b hbm => ?_) (by omega) (fun _ _ e => e) fun h' tk kk => hQ H' _ (I.kept kk) (Same.refl _)
  obtain ⟨d', as', r', _⟩ := hbs b hbm
  exact gok_clear I hg r'
end
/-- a def that is called while reprs are under way -/
structure FnOkH (P : Program) (w : World) (K : PySem.W.Frag) (mg : Str → Option Value) (base : Heap) (CX : CXT) (k : Nat) (f : Addr) (fd : FuncData) (ps : List Str) (sp : Sp) : Prop where
  len : ∀ vs H Q E, sp vs H Q E → vs.length = ps.length
  run : ∀ (A : Around) (outer : List Env) (s : Shared) (H : Hp) (args : Args) (us : List Value) (vs : List V) (Q : VK) (E : XK) (g : List Code), Room k A → A.guards = some g → GOk H g → Env0 P w K mg base A outer s H → BindsTo s fd args (ps.zip us) → Vals vs us → sp vs H Q E →
    codeAny (model P w) A (.call (.ref f) args) (CR CX outer P w H s Q E) s
theorem FnOkH.toG {P : Program} {w : World} {K : PySem.W.Frag} {mg : Str → Option Value} {base : Heap} {CX : CXT} {k : Nat} {f : Addr} {fd : FuncData} {ps : List Str} {sp : Sp} (F : FnOkH P w K mg base CX k f fd ps sp) : FnOkG P w K mg base CX k f fd ps sp :=
  ⟨F.len, fun A outer s H args us vs Q E hr hg => F.run A outer s H args us vs Q E [] hr hg (GOk.nil H)⟩
theorem okH {P : Program} {w : World} {K : PySem.W.Frag} {mg : Str → Option Value} {base : Heap} {x qual : Str} {st : Stmt} {f : Addr} {fd : FuncData} {N ps : List Str} {k : Nat} {sp : Sp} (F : Fun K x qual st f fd) (S : FnScope N ps (defScope st)) (len : ∀ vs H Q E, sp vs H Q E → vs.length = ps.length)
    (hbody : ∀ (cdv : Value) (A : Around) (outer : List Env) (s : Shared) (H : Hp) (vs : List V) (Q : VK) (E : XK) (g : List Code), Room k (A.deeper (envOfC qual (defScope st) s.heap.objs.size f cdv)) → A.guards = some g → GOk H g → sp vs H Q E →
      ∃ t, PSs (cxOf CX0 P w K mg base N qual (defScope st) f cdv A outer s H E).nox (defBody st) t ∧ t { nx := fun _ H' => Q .non H', rt := Q } (L2.start N vs) H) : FnOkH P w K mg base CX0 (k + 1) f fd ps sp := by
  obtain ⟨oc, od, kV, doc, pm, an, cdv, ct, osl, rfl, lk, hcd⟩ := F.ex
  refine ⟨len, fun A outer s H args us vs Q E g hr hg hgo e0 hb r hsp => ?_⟩
  refine LamX.run_ofS lk hcd S hr e0 hb r (len _ _ _ _ hsp) fun hr' => ?_
  obtain ⟨t, h, q⟩ := hbody cdv A outer s H vs Q E g hr' hg hgo hsp
  exact ⟨t, h.nox, q⟩
section
variable {X : Cx} {C f : Addr} {fd : FuncData} {k : Nat} {sp : Sp} {H : Hp}
theorem ReprStep.own {a : Addr} {t : Str} (F : FnOkH X.prog X.w X.K X.mg X.base CX0 k f fd ["self"] sp) (hb : L2.Binds X.K fd ["self"] []) (m : Meth X.K C "__repr__" f)
    (h : ∀ H', Same H H' → (∃ dx fs, H' a = some (.ins C dx fs)) ∧ sp [.ref a] H' (fun v H'' => v = .str t ∧ Same H' H'') E0) (hz : t.length ≤ sizeLine) : ReprStep X k H (.ref a) t := by
  intro base A g pins s σ H' u Q E' hbs hA hg I sm rx hQ
  cases rx
  obtain ⟨⟨dx, fs, ha⟩, h⟩ := h H' sm
  obtain ⟨mA, O, _⟩ := ins_get I.hok ha
  obtain ⟨od, J, _⟩ := O.look
  have X1 := I.kIn
  have hu := hA.room.units
  have hrun : wpAny (model X.prog X.w) A (call (.ref f) [.ref a]) (fun v s' => ∃ H'' tk, v = .str t tk ∧ L2.Inv X pins σ H'' s' ∧ Same H' H'') E' s := by
    have hl : ([Value.ref a] ++ []).length = ["self"].length := rfl
    have hb' : BindsTo s fd ⟨[.ref a], []⟩ ([("self" : Str)].zip [Value.ref a]) := hb s [.ref a] I.kIn rfl
    refine wpAny_call (codeAny_mono (F.run A X.stack s H' ⟨[.ref a], []⟩ [.ref a] [.ref a] _ E0 g hA.room hA.gd hg (hA.env I) hb' (.cons rfl .nil) h) fun r s' hq => ?_)
    cases r with
    | error e => exact (show False from hq).elim
    | ok fl =>
      cases fl with
      | ret w =>
        obtain ⟨v, H2, I2, rv, rfl, sm2⟩ := I.after hq
        obtain ⟨tk, rfl⟩ := rv
        exact ⟨H2, tk, rfl, I2, sm2⟩
      | next => exact False.elim hq
      | brk => exact False.elim hq
      | cont => exact False.elim hq
  refine wpAny_pyReprUnder_ref (by omega) ?_
  unfold pyReprObjUnder pyReprObjBy
  refine wpAny_bind (wpAny_cRoomFor (by omega) ?_)
  refine wpAny_bind (wpAny_bind (J.type.here ((PySem.W.looks_findIn X1 m.at_).here ?_)))
  show wpAny _ _ (if (some (Value.ref f)).isNone = true then _ else _) _ _ _
  rw [if_neg (by simp)]
  refine wpAny_bind ?_
  simp only [callSpecialIfBoundBy?, bindSpecialIfBound?]
  refine wpAny_holding (wpAny_bind (wpAny_bind (wpAny_bind (J.type.here ((PySem.W.looks_findIn X1 m.at_).here ?_)))))
  refine wpAny_bind (wpAny_askSetting (wpAny_ite ?_))
  have last : ∀ (Q' : Option Value → Shared → Prop), (∀ H'' s' tk, L2.Inv X pins σ H'' s' → Same H' H'' → Q' (some (.str t tk)) s') → wpAny (model X.prog X.w) A ((match reprUnder? (.ref f), [Value.ref a] with | some twin, [self] => call twin [self, rawInt base] | _, _ => call (.ref f) ([Value.ref a] ++ [])) >>= fun v => pure (some v)) Q' E' s := fun Q' hQ' => by
    refine wpAny_bind (wpAny_mono hrun (fun v s' hv => ?_) fun _ _ e => e)
    obtain ⟨H'', tk, rfl, I2, sm2⟩ := hv
    exact wpAny_pure (hQ' H'' s' tk I2 sm2)
  have fin : ∀ H'' s' tk, L2.Inv X pins σ H'' s' → Same H' H'' → wpAny (model X.prog X.w) A (do if ← isInstance (.str t tk) (.type "str") then pure (Value.str t tk) else raiseError "TypeError" s!"__repr__ returned non-string (type {← typeNameOf (.str t tk)})") (fun v s'' => ∃ x u, v = .str x u ∧ Q x s'') E' s' := fun H'' s' tk I2 sm2 => by
    refine wpAny_bind (wpAny_isInstance (typeIs_str _ _ _) isSubtype_str_str ?_)
    rw [if_pos rfl]
    exact wpAny_pure ⟨t, tk, rfl, hQ H'' s' I2 sm2⟩
  split
  · exact wpAny_bind ((PySem.W.bind_fn X1 _ (beq_iff_eq.mp m.fn)).here (wpAny_pure (last _ fun H'' s' tk I2 sm2 => fin H'' s' tk I2 sm2)))
  · exact wpAny_tryCatch (wpAny_bind ((PySem.W.bind_fn X1 _ (beq_iff_eq.mp m.fn)).here (wpAny_pure (last _ fun H'' s' tk I2 sm2 => fin H'' s' tk I2 sm2))))
end
end L3
namespace L3
open PySem PySem.Spec PyProof.Rows L2
open Builtin Builtin.List
/-- a record of ours that may change -/
structure Mine (X : Cx) (pins : List (Addr × Obj)) (P : Addr) : Prop where
  new : X.s_0.heap.objs.size ≤ P
  cell : ∀ x c, X.env.cells.lookup x = some c → c ≠ P
  pin : ∀ p ∈ X.pn ++ pins, p.1 ≠ P
section
variable {X : Cx} {pins : List (Addr × Obj)} {σ : L2.St} {H : Hp} {s : Shared} {P : Addr}
theorem Mine.of (I : L2.Inv X pins σ H s) (hP : s.heap.objs.size ≤ P) : Mine X pins P := by
  refine ⟨Nat.le_trans I.sz hP, fun x c e z => ?_, fun p hp z => ?_⟩
  · obtain ⟨v, o, hv, _⟩ := I.cell x c e
    rw [z] at hv
    exact absurd (Heap.lt_size hv) (Nat.not_lt.mpr hP)
  · obtain ⟨q, _⟩ := I.pin p hp
    rw [z] at q
    exact absurd (Heap.lt_size q) (Nat.not_lt.mpr hP)
end
end L3
namespace L3
open PySem PySem.Spec PyProof.Rows L2
def keyD : Key → PyData
  | .inl i => .int i
  | .inr x => .str x
end L3
namespace L3
open PySem PySem.Spec PyProof.Rows L2
mutual
inductive DpD (K : PySem.W.Frag) (H : Hp) : V → PyData → Prop
  | data {v : V} {d : PyData} : Dp K H v d → DpD K H v d
  | lst {a : Addr} {xs : List V} {ds : List PyData} : SqL K H a xs → DpDs K H xs ds → DpD K H (.ref a) (.list ds)
  | tup {a : Addr} {xs : List V} {ds : List PyData} : SqT K H a xs → DpDs K H xs ds → DpD K H (.ref a) (.tuple ds)
  | dct {a : Addr} {kvs : List (Key × V)} {ds : List PyData} {kd : List (PyData × PyData)} : H a = some (.dK kvs) → DpDs K H (kvs.map (·.2)) ds → kd = (kvs.map fun kv => keyD kv.1).zip ds → DpD K H (.ref a) (.dict kd)
inductive DpDs (K : PySem.W.Frag) (H : Hp) : List V → List PyData → Prop
  | nil : DpDs K H [] []
  | cons {v : V} {vs : List V} {d : PyData} {ds : List PyData} : DpD K H v d → DpDs K H vs ds → DpDs K H (v :: vs) (d :: ds)
end
theorem DpDs.len {K : PySem.W.Frag} {H : Hp} : ∀ {vs : List V} {ds : List PyData}, DpDs K H vs ds → vs.length = ds.length
  | _, _, .nil => rfl
  | _, _, .cons _ t => congrArg (· + 1) t.len
end L3
namespace L3
open PySem PySem.Spec PyProof.Rows L2 PpSet
end L3
namespace L3
open PySem PySem.Spec PyProof.Rows L2
end L3
namespace L3
open PySem PySem.Spec PyProof.Rows L2
def k4 {α : Type} : List α → List α → List α
  | [], [w, v, u, t] => [t, u, v, w]
  | _, _ => []
end L3
namespace L3
open PySem PySem.Spec PyProof.Rows L2
def s3 {α : Type} : List α → List α → List α
  | [], [w, v, u] => [u, v, w]
  | _, _ => []
def n3 {α : Type} : List α → List α → List α
  | [s], [w, v, u] => [s, v, u, w]
  | _, _ => []
end L3
namespace L3
open PySem PySem.Spec PyProof.Rows L2 LamX
end L3
namespace L3
open PySem PySem.Spec PyProof.Rows L2
end L3
namespace L3
open PySem PySem.Spec PyProof.Rows L2 LamX NdefX
/-- the function at f is F, its code object stands -/
def FnAt2 (f : Addr) (F : NF) (H : Hp) : Prop := H f = some (FnO f F) ∧ H F.c = some (CodeO F.c F.qual)
theorem FnAt2.same {f : Addr} {F : NF} {H H' : Hp} (s : Same H H') (h : FnAt2 f F H) : FnAt2 f F H' := ⟨s _ _ h.1, s _ _ h.2⟩
end L3
namespace L3
open PySem PySem.Spec PyProof.Rows L2 Builtin Builtin.ObjectAttr
end L3
namespace L3
open PySem PySem.Spec PyProof.Rows L2 Builtin Builtin.ObjectAttr
end L3
namespace L3
open PySem PySem.Spec PyProof.Rows L2
end L3
namespace L3
open PySem PySem.Spec PyProof.Rows L2
/-- a clause: the class it names, the slot of its name, what its suite does -/
structure Cls1 where
  c : Value
  slot : Option Nat
  ts : Addr → Value → Option Addr → TS
def Cls1.ends (k : Cls1) (D : Ends) : Ends := match k.slot with
  | none => D
  | some i => ⟨fun τ G => D.nx (τ.set i none) G, D.rt, fun τ G => D.bk (τ.set i none) G, fun τ G => D.ct (τ.set i none) G⟩
def Cls1.start (k : Cls1) (a : Addr) (σ : L2.St) : L2.St := match k.slot with
  | none => σ
  | some i => σ.set i (some (.ref a))
/-- what the clauses wish of an error of the body -/
def wMix (K : PySem.W.Frag) (Wout : WX) (D : Ends) : List Cls1 → WX
  | [] => Wout
  | k :: r => fun cls d σ H => ∃ b, PySem.W.exmOne K cls k.c = some b ∧ (b = true → ∀ a, H a = none → k.ts a cls d (k.ends D) (k.start a σ) H) ∧ (b = false → wMix K Wout D r cls d σ H)
/-- a suite that holds an error -/
def SuOk (X : Cx) (b₀ : Stmt) (su : List Stmt) (ts : Addr → Value → Option Addr → TS) : Prop := ∀ (a : Addr) (oe : Obj) (cls : Value) (d : Option Addr) (pn : List (Addr × Obj)), Zc cls d oe → (∃ vs, oe.data = .fields vs) → PSs (X.suite a ((a, oe) :: pn)) (b₀ :: su) (ts a cls d)
inductive MixOk (X : Cx) : List ExceptHandler → List Cls1 → Prop
  | nil : MixOk X [] []
  | bare {x : Str} {c : Value} {ts : Addr → Value → Option Addr → TS} {b₀ : Stmt} {su : List Stmt} {p1 p2 : Pos} {hs : List ExceptHandler} {l : List Cls1} : Names X x c → SuOk X b₀ su ts → MixOk X hs l → MixOk X (.ExceptHandler (some (.Name x p1)) none (b₀ :: su) p2 :: hs) (⟨c, none, ts⟩ :: l)
  | named {x n : Str} {i : Nat} {c : Value} {ts : Addr → Value → Option Addr → TS} {b₀ : Stmt} {su : List Stmt} {p1 p2 : Pos} {hs : List ExceptHandler} {l : List Cls1} : Names X x c → X.N[i]? = some n → X.env.kindOf n = some .local → SuOk X b₀ su ts → MixOk X hs l → MixOk X (.ExceptHandler (some (.Name x p1)) (some n) (b₀ :: su) p2 :: hs) (⟨c, some i, ts⟩ :: l)
section
variable {X : Cx} {pins : List (Addr × Obj)} {σ : L2.St} {H : Hp} {a : Addr} {cls : Value} {d : Option Addr} {B g : Heap} {sI s : Shared}
/-- an error that flies over this frame -/
structure Fly (X : Cx) (pins : List (Addr × Obj)) (σ : L2.St) (H : Hp) (a : Addr) (cls : Value) (d : Option Addr) (B : Heap) (sI s : Shared) (g : Heap) : Prop where
  J : L2.Inv X pins σ H sI
  nb : ∀ b o, sI.heap.get? b = some o → b ∉ frs X.stack → B.get? b = some o
  up : sI.heap.UpToSlots g
  fl : HandSPX.FlyingZ B (X.env :: X.outer) a (Zc cls d) g
  na : H a = none
  os : s.os = sI.os
  ag : AllBare s.gens
theorem Fly.inv (F : Fly X pins σ H a cls d B sI s g) : L2.Inv X pins σ H { s with heap := g } := F.J.landed F.nb F.fl.1 F.up F.os F.ag
theorem Fly.suite (F : Fly X pins σ H a cls d B sI s g) (hf : X.env.frame = some X.env.locals) : ∃ (oe : Obj) (vs : Array Value), g.get? a = some oe ∧ Zc cls d oe ∧ oe.data = .fields vs ∧ L2.Inv (X.suite a ((a, oe) :: (X.pn ++ pins))) [] σ H { s with heap := g } := by
  obtain ⟨oe, vs, h1, h2, h3⟩ := F.fl.there
  have out : a ∉ frs (X.env :: X.outer) := fun m => by
    obtain ⟨_, u, e, no⟩ := F.fl.2.2.1.mem m
    rw [h1] at e
    cases e
    exact no _ h3
  refine ⟨oe, vs, h1, h2, h3, F.inv.suite h1 h3 F.na (fun z => out ?_) fun m => out ?_⟩
  · exact List.mem_filterMap.mpr ⟨_, List.mem_cons_self, by rw [hf, z]⟩
  · obtain ⟨v, m1, m2⟩ := List.mem_filterMap.mp m
    exact List.mem_filterMap.mpr ⟨v, List.mem_cons_of_mem _ m1, m2⟩
/-- the class of a clause is asked -/
theorem Fly.asked (F : Fly X pins σ H a cls d B sI s g) (hf : X.env.frame = some X.env.locals) {x : Str} {c : Value} {b : Bool} {p1 : Pos} (hc : Names X x c) (hb : PySem.W.exmOne X.K cls c = some b) {M : Value → Shared → Prop} {E : Value → Shared → Prop} (k : M c { s with heap := g }) :
    wpAny (model X.prog X.w) (X.A.mark (some (.ref a))) (eval (.Name x p1) X.env) M E { s with heap := g } := by
  obtain ⟨oe, vs, h1, h2, h3, S⟩ := F.suite hf
  obtain ⟨n1, n2, m | ⟨m, n3, n4⟩⟩ := hc
  · exact ld_glob (X := X.suite a ((a, oe) :: (X.pn ++ pins))) S n1 m k n2
  · exact ld_blt (X := X.suite a ((a, oe) :: (X.pn ++ pins))) S n1 m n3 k n4 n2
theorem Fly.match_ (F : Fly X pins σ H a cls d B sI s g) {c : Value} {b : Bool} (hb : PySem.W.exmOne X.K cls c = some b) : PySem.W.Looks (model X.prog X.w) g (excMatches (.ref a) c) b := by
  obtain ⟨oe, vs, h1, h2, h3⟩ := F.fl.there
  refine PySem.W.exm_one F.inv.kIn (fun A' M' E' s1 k q => ?_) hb
  refine wpAny_typeOf_ref (k _ _ h1) ?_
  rw [h2.1]
  exact q
/-- on from here, the frame's flight noted again -/
theorem Fly.on (F : Fly X pins σ H a cls d B sI s g) {g' : Heap} (f : HandSPX.FlyingZ B (X.env :: X.outer) a (Zc cls d) g') (u : g.UpToSlots g') : Fly X pins σ H a cls d B sI s g' := ⟨F.J, F.nb, F.up.trans u, f, F.na, F.os, F.ag⟩
variable {D : Ends} {Wout : WX} {hs : List ExceptHandler} {x n : Str} {i : Nat} {c : Value} {ts : Addr → Value → Option Addr → TS} {b₀ : Stmt} {su : List Stmt} {p1 p2 : Pos} {b : Bool}
/-- no clause is left -/
theorem Fly.out (F : Fly X pins σ H a cls d B sI s g) (st : X.stack = X.env :: X.outer) (hf : X.env.frame = some X.env.locals) (tk : Takes X Wout) (w : Wout cls d σ H) :
    wpAny (model X.prog X.w) X.A (handleBy (.ref a) X.env []) (SP X pins D) X.xe { s with heap := g } := by
  have throw_ : wpAny (model X.prog X.w) X.A (setFlight (.ref a) X.env.frame) (fun _ s4 => wpAny (model X.prog X.w) X.A (throw (.ref a) : Sem Flow) (SP X pins D) X.xe s4) X.xe { s with heap := g } := by
    rw [hf]
    refine HandSPX.setFlight_upZ F.fl fun g4 sk u4 => ?_
    refine wpAny_throw (tk _ _ ⟨a, B, sI, pins, σ, H, cls, d, rfl, F.J, F.nb, F.up.trans u4, .inr (.inr ?_), F.na, F.os, F.ag, w⟩)
    rw [st]
    exact sk
  obtain ⟨_, _, _, oe, vs, tb, _, _, e1, _, e3, e4, _⟩ := id F.fl
  have ne : ¬ ((Value.ref tb == Value.none) = true) := by simp
  refine wpAny_handleBy_nil ?_
  unfold PySem.passOn
  refine wpAny_bind (wpAny_field e1 e3 e4 ?_)
  rw [if_neg ne]
  first
    | exact wpAny_bind throw_
    | exact wpAny_bind (wpAny_pure (wpAny_bind throw_))
/-- a clause without a name -/
theorem Fly.bare (F : Fly X pins σ H a cls d B sI s g) (hf : X.env.frame = some X.env.locals) (hc : Names X x c) (hsu : SuOk X b₀ su ts) (hb : PySem.W.exmOne X.K cls c = some b) (yes : b = true → ts a cls d D σ H)
    (no : b = false → wpAny (model X.prog X.w) X.A (handleBy (.ref a) X.env hs) (SP X pins D) X.xe { s with heap := g }) :
    wpAny (model X.prog X.w) X.A (handleBy (.ref a) X.env (.ExceptHandler (some (.Name x p1)) none (b₀ :: su) p2 :: hs)) (SP X pins D) X.xe { s with heap := g } := by
  refine wpAny_handleBy_cons (codeAny_handlers_test (F.asked hf hc hb ((F.match_ hb).here ?_))) fun q => nomatch q
  cases b with
  | false => exact no rfl
  | true =>
    refine codeAny_handlers_suite (HandSPX.lands_againZ F.fl fun g4 f4 u4 => ?_)
    have F4 := F.on f4 u4
    have ok := F.J.ok
    obtain ⟨oe, vs, _, z, e3, S⟩ := F4.suite hf
    refine wpAny_mono ((hsu a oe cls d (X.pn ++ pins) z ⟨_, e3⟩).run [] _ _ H _ S (yes rfl)) (fun fl s6 r => ?_) (fun _ _ z => z.elim)
    cases fl with
    | next => obtain ⟨τ, G, S6, q6⟩ := r; exact ⟨τ, G, S6.unsuite ok, q6⟩
    | brk => obtain ⟨τ, G, S6, q6⟩ := r; exact ⟨τ, G, S6.unsuite ok, q6⟩
    | cont => obtain ⟨τ, G, S6, q6⟩ := r; exact ⟨τ, G, S6.unsuite ok, q6⟩
    | ret u => obtain ⟨y, τ, G, S6, ry, q6⟩ := r; exact ⟨y, τ, G, S6.unsuite ok, ry, q6⟩
/-- a clause with a name -/
theorem Fly.named (F : Fly X pins σ H a cls d B sI s g) (hf : X.env.frame = some X.env.locals) (nd : X.N.Nodup) (hc : Names X x c) (hi : X.N[i]? = some n) (hn : X.env.kindOf n = some .local) (hsu : SuOk X b₀ su ts) (hb : PySem.W.exmOne X.K cls c = some b)
    (yes : b = true → ts a cls d ((⟨c, some i, ts⟩ : Cls1).ends D) (σ.set i (some (.ref a))) H)
    (no : b = false → wpAny (model X.prog X.w) X.A (handleBy (.ref a) X.env hs) (SP X pins D) X.xe { s with heap := g }) :
    wpAny (model X.prog X.w) X.A (handleBy (.ref a) X.env (.ExceptHandler (some (.Name x p1)) (some n) (b₀ :: su) p2 :: hs)) (SP X pins D) X.xe { s with heap := g } := by
  refine wpAny_handleBy_cons (codeAny_handlers_test (F.asked hf hc hb ((F.match_ hb).here ?_))) fun q => nomatch q
  cases b with
  | false => exact no rfl
  | true =>
    refine codeAny_handlers_suite_as (HandSPX.lands_againZ F.fl fun g4 f4 u4 => ?_)
    have F4 := F.on f4 u4
    have ok := F.J.ok
    obtain ⟨oe, vs, _, z, e3, S⟩ := F4.suite hf
    refine store_ok (X := X.suite a ((a, oe) :: (X.pn ++ pins))) (v := .ref a) S nd hi (.inl hn) rfl (fun s5 S5 => ?_) (.inr hn)
    refine wpAny_mono ((hsu a oe cls d (X.pn ++ pins) z ⟨_, e3⟩).run [] s5 _ H _ S5 (yes rfl)) (fun fl s6 r => ?_) (fun _ _ z => z.elim)
    cases fl with
    | next => obtain ⟨τ, G, S6, q6⟩ := r; exact gone_ok (S6.unsuite ok) nd hi hn fun s7 J7 => ⟨_, _, J7, q6⟩
    | brk => obtain ⟨τ, G, S6, q6⟩ := r; exact gone_ok (S6.unsuite ok) nd hi hn fun s7 J7 => ⟨_, _, J7, q6⟩
    | cont => obtain ⟨τ, G, S6, q6⟩ := r; exact gone_ok (S6.unsuite ok) nd hi hn fun s7 J7 => ⟨_, _, J7, q6⟩
    | ret u => obtain ⟨y, τ, G, S6, ry, q6⟩ := r; exact gone_ok (S6.unsuite ok) nd hi hn fun s7 J7 => ⟨_, _, _, J7, ry, q6⟩
theorem Fly.all (F : Fly X pins σ H a cls d B sI s g) (st : X.stack = X.env :: X.outer) (hf : X.env.frame = some X.env.locals) (nd : X.N.Nodup) (tk : Takes X Wout) : ∀ {hs : List ExceptHandler} {l : List Cls1}, MixOk X hs l → wMix X.K Wout D l cls d σ H →
    wpAny (model X.prog X.w) X.A (handleBy (.ref a) X.env hs) (SP X pins D) X.xe { s with heap := g }
  | _, _, .nil, w => F.out st hf tk w
  | _, _, .bare hc hsu r, ⟨_, hb, yes, no⟩ => F.bare hf hc hsu hb (fun e => yes e a F.na) fun e => F.all st hf nd tk r (no e)
  | _, _, .named hc hi hn hsu r, ⟨_, hb, yes, no⟩ => F.named hf nd hc hi hn hsu hb (fun e => yes e a F.na) fun e => F.all st hf nd tk r (no e)
end
end L3
namespace L3
open PySem PySem.Spec PyProof.Rows L2
end L3
namespace PySem.SeqAt
open PySem.Meets PySem.MeetsSeq MeetsSeq2 MeetsSeq3 SeqRoads2
end PySem.SeqAt
namespace L3
open PySem PySem.Spec PyProof.Rows L2
end L3
namespace Lw
open PySem PySem.Spec PyProof.Rows L2 L3
def topS (i : Nat) : Stmt := PySem.Challenge.pw_missedparts_k23_whole_sums_kept.main.body.getD i (.Pass ⟨0, 0, 0, 0⟩)
abbrev s_is_list : Stmt := topS 15
abbrev s_is_text : Stmt := topS 16
abbrev s_are_letters : Stmt := topS 17
abbrev s_is_text_over : Stmt := topS 18
abbrev s_want_few : Stmt := topS 19
abbrev s_is_star : Stmt := topS 29
abbrev s_letters_in : Stmt := topS 30
abbrev s_are_rising : Stmt := topS 31
abbrev s_is_piece : Stmt := topS 32
abbrev s_is_product : Stmt := topS 33
abbrev s_is_product_over : Stmt := topS 34
abbrev s_holds : Stmt := topS 35
abbrev s_place_behind : Stmt := topS 36
abbrev s_place_by : Stmt := topS 37
abbrev s_has_text : Stmt := topS 38
abbrev s_lies_within : Stmt := topS 39
abbrev s_reduced_of : Stmt := topS 40
abbrev s_kept_of : Stmt := topS 41
abbrev s_want_letters : Stmt := topS 52
abbrev s_law_pot : Stmt := topS 57
abbrev s_law_draw : Stmt := topS 58
abbrev s_law_pick : Stmt := topS 59
abbrev s_law_mixed : Stmt := topS 60
abbrev s_law_piece : Stmt := topS 61
abbrev s_law_bundle : Stmt := topS 62
abbrev s_law_signs : Stmt := topS 63
abbrev s_law_go : Stmt := topS 64
abbrev s_law_next : Stmt := topS 65
abbrev s_law_run : Stmt := topS 66
abbrev s_law_has : Stmt := topS 67
abbrev s_law_hits : Stmt := topS 68
abbrev s_law_apart : Stmt := topS 69
abbrev s_law_idle : Stmt := topS 70
abbrev s_law_reduced : Stmt := topS 71
abbrev s_law_kept : Stmt := topS 72
abbrev s_law_texts : Stmt := topS 73
abbrev s_law_some : Stmt := topS 74
abbrev s_law_padded : Stmt := topS 75
abbrev s_law_told_right : Stmt := topS 76
abbrev s_law_in_right : Stmt := topS 77
abbrev s_law_again_right : Stmt := topS 78
abbrev s_law_two_right : Stmt := topS 79
abbrev s_law_right : Stmt := topS 80
abbrev s_law : Stmt := topS 81
theorem sc_is_list : FnScope ["value"] ["value"] (defScope s_is_list) := ⟨rfl, rfl, rfl, by decide +kernel, rfl, by decide +kernel, by decide +kernel⟩
theorem sc_is_text : FnScope ["value", "sign"] ["value"] (defScope s_is_text) := ⟨rfl, rfl, rfl, by decide +kernel, rfl, by decide +kernel, by decide +kernel⟩
theorem sc_are_letters : FnScope ["value"] ["value"] (defScope s_are_letters) := ⟨rfl, rfl, rfl, by decide +kernel, rfl, by decide +kernel, by decide +kernel⟩
theorem sc_is_text_over : FnScope ["letters", "value", "sign"] ["letters", "value"] (defScope s_is_text_over) := ⟨rfl, rfl, rfl, by decide +kernel, rfl, by decide +kernel, by decide +kernel⟩
theorem sc_want_few : FnScope ["what", "many", "limit"] ["what", "many", "limit"] (defScope s_want_few) := ⟨rfl, rfl, rfl, by decide +kernel, rfl, by decide +kernel, by decide +kernel⟩
theorem sc_is_star : FnScope ["piece"] ["piece"] (defScope s_is_star) := ⟨rfl, rfl, rfl, by decide +kernel, rfl, by decide +kernel, by decide +kernel⟩
theorem sc_letters_in : FnScope ["piece"] ["piece"] (defScope s_letters_in) := ⟨rfl, rfl, rfl, by decide +kernel, rfl, by decide +kernel, by decide +kernel⟩
theorem sc_are_rising : FnScope ["letters", "letter", "at"] ["letters"] (defScope s_are_rising) := ⟨rfl, rfl, rfl, by decide +kernel, rfl, by decide +kernel, by decide +kernel⟩
theorem sc_is_piece : FnScope ["value"] ["value"] (defScope s_is_piece) := ⟨rfl, rfl, rfl, by decide +kernel, rfl, by decide +kernel, by decide +kernel⟩
theorem sc_is_product : FnScope ["value", "piece"] ["value"] (defScope s_is_product) := ⟨rfl, rfl, rfl, by decide +kernel, rfl, by decide +kernel, by decide +kernel⟩
theorem sc_is_product_over : FnScope ["letters", "value", "piece", "letter"] ["letters", "value"] (defScope s_is_product_over) := ⟨rfl, rfl, rfl, by decide +kernel, rfl, by decide +kernel, by decide +kernel⟩
theorem sc_holds : FnScope ["piece", "other", "letter"] ["piece", "other"] (defScope s_holds) := ⟨rfl, rfl, rfl, by decide +kernel, rfl, by decide +kernel, by decide +kernel⟩
theorem sc_place_behind : FnScope ["product", "place", "piece", "at"] ["product", "place", "piece"] (defScope s_place_behind) := ⟨rfl, rfl, rfl, by decide +kernel, rfl, by decide +kernel, by decide +kernel⟩
theorem sc_place_by : FnScope ["product", "place", "pieces", "piece"] ["product", "place", "pieces"] (defScope s_place_by) := ⟨rfl, rfl, rfl, by decide +kernel, rfl, by decide +kernel, by decide +kernel⟩
theorem sc_has_text : FnScope ["product", "text"] ["product", "text"] (defScope s_has_text) := ⟨rfl, rfl, rfl, by decide +kernel, rfl, by decide +kernel, by decide +kernel⟩
theorem sc_lies_within : FnScope ["one", "other"] ["one", "other"] (defScope s_lies_within) := ⟨rfl, rfl, rfl, by decide +kernel, rfl, by decide +kernel, by decide +kernel⟩
theorem sc_reduced_of : FnScope ["product", "found", "piece"] ["product"] (defScope s_reduced_of) := ⟨rfl, rfl, rfl, by decide +kernel, rfl, by decide +kernel, by decide +kernel⟩
theorem sc_kept_of : FnScope ["products", "some", "product", "one", "other"] ["products"] (defScope s_kept_of) := ⟨rfl, rfl, rfl, by decide +kernel, rfl, by decide +kernel, by decide +kernel⟩
theorem sc_want_letters : FnScope ["letters"] ["letters"] (defScope s_want_letters) := ⟨rfl, rfl, rfl, by decide +kernel, rfl, by decide +kernel, by decide +kernel⟩
theorem sc_law_pot : FnScope ["_law_script", "_law_k", "_law_cell"] ["_law_script", "_law_k"] (defScope s_law_pot) := ⟨rfl, rfl, rfl, by decide +kernel, rfl, by decide +kernel, by decide +kernel⟩
theorem sc_law_draw : FnScope ["_law_pot_here", "_law_sides", "_law_digit"] ["_law_pot_here", "_law_sides"] (defScope s_law_draw) := ⟨rfl, rfl, rfl, by decide +kernel, rfl, by decide +kernel, by decide +kernel⟩
theorem sc_law_pick : FnScope ["_law_pot_here", "_law_some_here"] ["_law_pot_here", "_law_some_here"] (defScope s_law_pick) := ⟨rfl, rfl, rfl, by decide +kernel, rfl, by decide +kernel, by decide +kernel⟩
theorem sc_law_mixed : FnScope ["_law_pot_here", "_law_some_here", "_law_left", "_law_found", "_law_turn"] ["_law_pot_here", "_law_some_here"] (defScope s_law_mixed) := ⟨rfl, rfl, rfl, by decide +kernel, rfl, by decide +kernel, by decide +kernel⟩
theorem sc_law_piece : FnScope ["_law_pot_here", "_law_signs_here", "_law_some_here", "_law_sign"] ["_law_pot_here", "_law_signs_here"] (defScope s_law_piece) := ⟨rfl, rfl, rfl, by decide +kernel, rfl, by decide +kernel, by decide +kernel⟩
theorem sc_law_bundle : FnScope ["_law_pot_here", "_law_signs_here", "_law_most", "_law_turn"] ["_law_pot_here", "_law_signs_here", "_law_most"] (defScope s_law_bundle) := ⟨rfl, rfl, rfl, by decide +kernel, rfl, by decide +kernel, by decide +kernel⟩
theorem sc_law_signs : FnScope ["_law_pot_here"] ["_law_pot_here"] (defScope s_law_signs) := ⟨rfl, rfl, rfl, by decide +kernel, rfl, by decide +kernel, by decide +kernel⟩
theorem sc_law_go : FnScope ["_law_bundle_here", "_law_at", "_law_sign", "_law_k"] ["_law_bundle_here", "_law_at", "_law_sign"] (defScope s_law_go) := ⟨rfl, rfl, rfl, by decide +kernel, rfl, by decide +kernel, by decide +kernel⟩
theorem sc_law_next : FnScope ["_law_some_here", "_law_spots", "_law_sign", "_law_bundle_here", "_law_at"] ["_law_some_here", "_law_spots", "_law_sign"] (defScope s_law_next) := ⟨rfl, rfl, rfl, by decide +kernel, rfl, by decide +kernel, by decide +kernel⟩
theorem sc_law_run : FnScope ["_law_some_here", "_law_text", "_law_spots", "_law_bundle_here", "_law_sign"] ["_law_some_here", "_law_text"] (defScope s_law_run) := ⟨rfl, rfl, rfl, by decide +kernel, rfl, by decide +kernel, by decide +kernel⟩
theorem sc_law_has : FnScope ["_law_some_here", "_law_text", "_law_at"] ["_law_some_here", "_law_text"] (defScope s_law_has) := ⟨rfl, rfl, rfl, by decide +kernel, rfl, by decide +kernel, by decide +kernel⟩
theorem sc_law_hits : FnScope ["_law_rule", "_law_flags"] ["_law_rule", "_law_flags"] (defScope s_law_hits) := ⟨rfl, rfl, rfl, by decide +kernel, rfl, by decide +kernel, by decide +kernel⟩
theorem sc_law_apart : FnScope ["_law_signs_here", "_law_lists", "_law_rule", "_law_begin", "_law_bundle_here", "_law_some_here", "_law_found", "_law_waiting", "_law_here", "_law_at", "_law_spots", "_law_sign", "_law_there"] ["_law_signs_here", "_law_lists", "_law_rule"] (defScope s_law_apart) := ⟨rfl, rfl, rfl, by decide +kernel, rfl, by decide +kernel, by decide +kernel⟩
theorem sc_law_idle : FnScope ["_law_pieces", "_law_k", "_law_piece_here", "_law_near", "_law_sign"] ["_law_pieces"] (defScope s_law_idle) := ⟨rfl, rfl, rfl, by decide +kernel, rfl, by decide +kernel, by decide +kernel⟩
theorem sc_law_reduced : FnScope ["_law_bundle_here", "_law_left", "_law_at"] ["_law_bundle_here"] (defScope s_law_reduced) := ⟨rfl, rfl, rfl, by decide +kernel, rfl, by decide +kernel, by decide +kernel⟩
theorem sc_law_kept : FnScope ["_law_signs_here", "_law_some_here", "_law_bare", "_law_bundle_here", "_law_found", "_law_far"] ["_law_signs_here", "_law_some_here"] (defScope s_law_kept) := ⟨rfl, rfl, rfl, by decide +kernel, rfl, by decide +kernel, by decide +kernel⟩
theorem sc_law_texts : FnScope ["_law_signs_here", "_law_most", "_law_found", "_law_last", "_law_turn", "_law_longer", "_law_text", "_law_sign"] ["_law_signs_here", "_law_most"] (defScope s_law_texts) := ⟨rfl, rfl, rfl, by decide +kernel, rfl, by decide +kernel, by decide +kernel⟩
theorem sc_law_some : FnScope ["_law_pot_here", "_law_signs_here", "_law_many", "_law_most", "_law_found", "_law_turn", "_law_bundle_here"] ["_law_pot_here", "_law_signs_here", "_law_many", "_law_most"] (defScope s_law_some) := ⟨rfl, rfl, rfl, by decide +kernel, rfl, by decide +kernel, by decide +kernel⟩
theorem sc_law_padded : FnScope ["_law_pot_here", "_law_bundle_here", "_law_at", "_law_near", "_law_signs_here", "_law_piece_here"] ["_law_pot_here", "_law_bundle_here"] (defScope s_law_padded) := ⟨rfl, rfl, rfl, by decide +kernel, rfl, by decide +kernel, by decide +kernel⟩
theorem sc_law_told_right : FnScope ["_law_signs_here", "_law_made", "_law_some_here", "_law_due", "_law_shown", "_law_turn", "_law_told"] ["_law_signs_here", "_law_made", "_law_some_here"] (defScope s_law_told_right) := ⟨rfl, rfl, rfl, by decide +kernel, rfl, by decide +kernel, by decide +kernel⟩
theorem sc_law_in_right : FnScope ["_law_signs_here", "_law_made", "_law_some_here", "_law_text", "_law_odd", "_law_value"] ["_law_signs_here", "_law_made", "_law_some_here"] (defScope s_law_in_right) := ⟨rfl, rfl, rfl, by decide +kernel, rfl, by decide +kernel, by decide +kernel⟩
theorem sc_law_again_right : FnScope ["_law_pot_here", "_law_signs_here", "_law_made", "_law_some_here", "_law_kept_here", "_law_more", "_law_bundle_here", "_law_again", "_law_far", "_law_value", "_law_wide"] ["_law_pot_here", "_law_signs_here", "_law_made", "_law_some_here"] (defScope s_law_again_right) := ⟨rfl, rfl, rfl, by decide +kernel, rfl, by decide +kernel, by decide +kernel⟩
theorem sc_law_two_right : FnScope ["_law_signs_here", "_law_one", "_law_other", "_law_due"] ["_law_signs_here", "_law_one", "_law_other"] (defScope s_law_two_right) := ⟨rfl, rfl, rfl, by decide +kernel, rfl, by decide +kernel, by decide +kernel⟩
theorem sc_law_right : FnScope ["_law_pot_here", "_law_signs_here", "_law_some_here", "_law_far", "_law_handed", "_law_kept_here", "_law_made", "_law_mate", "_law_near"] ["_law_pot_here"] (defScope s_law_right) := ⟨rfl, rfl, rfl, by decide +kernel, rfl, by decide +kernel, by decide +kernel⟩
theorem sc_law : FnScope ["_law_script", "_law_k"] ["_law_script"] (defScope s_law) := ⟨rfl, rfl, rfl, by decide +kernel, rfl, by decide +kernel, by decide +kernel⟩
abbrev s_Sum_init : Stmt := inClass (topS 55) 1
theorem sc_Sum_init : FnScope ["self", "letters", "products", "position", "product", "kept"] ["self", "letters", "products"] (defScope s_Sum_init) := ⟨rfl, rfl, rfl, by decide +kernel, rfl, by decide +kernel, by decide +kernel⟩
abbrev s_Sum_products : Stmt := inClass (topS 55) 6
theorem sc_Sum_products : FnScope ["self"] ["self"] (defScope s_Sum_products) := ⟨rfl, rfl, rfl, by decide +kernel, rfl, by decide +kernel, by decide +kernel⟩
abbrev s_Sum_contains : Stmt := inClass (topS 55) 14
theorem sc_Sum_contains : FnScope ["self", "value", "one"] ["self", "value"] (defScope s_Sum_contains) := ⟨rfl, rfl, rfl, by decide +kernel, rfl, by decide +kernel, by decide +kernel⟩
abbrev s_Sum_len : Stmt := inClass (topS 55) 15
theorem sc_Sum_len : FnScope ["self"] ["self"] (defScope s_Sum_len) := ⟨rfl, rfl, rfl, by decide +kernel, rfl, by decide +kernel, by decide +kernel⟩
abbrev s_Sum_eq : Stmt := inClass (topS 55) 18
theorem sc_Sum_eq : FnScope ["self", "other"] ["self", "other"] (defScope s_Sum_eq) := ⟨rfl, rfl, rfl, by decide +kernel, rfl, by decide +kernel, by decide +kernel⟩
abbrev s_Sum_repr : Stmt := inClass (topS 55) 19
theorem sc_Sum_repr : FnScope ["self"] ["self"] (defScope s_Sum_repr) := ⟨rfl, rfl, rfl, by decide +kernel, rfl, by decide +kernel, by decide +kernel⟩
abbrev s_Sum_letters : Stmt := inClass (topS 55) 5
theorem sc_Sum_letters : FnScope ["self"] ["self"] (defScope s_Sum_letters) := ⟨rfl, rfl, rfl, by decide +kernel, rfl, by decide +kernel, by decide +kernel⟩
/-- what the top has left of a method -/
structure Dm (K : PySem.W.Frag) (C : Addr) (x qual : Str) (st : Stmt) (ps : List Str) (f : Addr) (fd : FuncData) : Prop where
  F : Fun K x qual st f fd
  b : L2.Binds K fd ps []
  m : Meth K C x f
/-- .. of a property -/
structure Dp1 (K : PySem.W.Frag) (C : Addr) (x qual : Str) (st : Stmt) (p f : Addr) (fd : FuncData) : Prop where
  F : Fun K x qual st f fd
  b : L2.Binds K fd ["self"] []
  p : PropOf K C x p f
/-- what the top has left of a def -/
structure Dn (K : PySem.W.Frag) (mg : Str → Option Value) (x : Str) (st : Stmt) (ps : List Str) (f : Addr) (fd : FuncData) : Prop where
  F : Fun K x x st f fd
  b : L2.Binds K fd ps []
  g : mg x = some (.ref f)
structure All (K : PySem.W.Frag) (mg : Str → Option Value) where
  f_is_list : Addr
  d_is_list : FuncData
  is_list : Dn K mg "is_list" s_is_list ["value"] f_is_list d_is_list
  f_is_text : Addr
  d_is_text : FuncData
  is_text : Dn K mg "is_text" s_is_text ["value"] f_is_text d_is_text
  f_are_letters : Addr
  d_are_letters : FuncData
  are_letters : Dn K mg "are_letters" s_are_letters ["value"] f_are_letters d_are_letters
  f_is_text_over : Addr
  d_is_text_over : FuncData
  is_text_over : Dn K mg "is_text_over" s_is_text_over ["letters", "value"] f_is_text_over d_is_text_over
  f_want_few : Addr
  d_want_few : FuncData
  want_few : Dn K mg "want_few" s_want_few ["what", "many", "limit"] f_want_few d_want_few
  f_is_star : Addr
  d_is_star : FuncData
  is_star : Dn K mg "is_star" s_is_star ["piece"] f_is_star d_is_star
  f_letters_in : Addr
  d_letters_in : FuncData
  letters_in : Dn K mg "letters_in" s_letters_in ["piece"] f_letters_in d_letters_in
  f_are_rising : Addr
  d_are_rising : FuncData
  are_rising : Dn K mg "are_rising" s_are_rising ["letters"] f_are_rising d_are_rising
  f_is_piece : Addr
  d_is_piece : FuncData
  is_piece : Dn K mg "is_piece" s_is_piece ["value"] f_is_piece d_is_piece
  f_is_product : Addr
  d_is_product : FuncData
  is_product : Dn K mg "is_product" s_is_product ["value"] f_is_product d_is_product
  f_is_product_over : Addr
  d_is_product_over : FuncData
  is_product_over : Dn K mg "is_product_over" s_is_product_over ["letters", "value"] f_is_product_over d_is_product_over
  f_holds : Addr
  d_holds : FuncData
  holds : Dn K mg "holds" s_holds ["piece", "other"] f_holds d_holds
  f_place_behind : Addr
  d_place_behind : FuncData
  place_behind : Dn K mg "place_behind" s_place_behind ["product", "place", "piece"] f_place_behind d_place_behind
  f_place_by : Addr
  d_place_by : FuncData
  place_by : Dn K mg "place_by" s_place_by ["product", "place", "pieces"] f_place_by d_place_by
  f_has_text : Addr
  d_has_text : FuncData
  has_text : Dn K mg "has_text" s_has_text ["product", "text"] f_has_text d_has_text
  f_lies_within : Addr
  d_lies_within : FuncData
  lies_within : Dn K mg "lies_within" s_lies_within ["one", "other"] f_lies_within d_lies_within
  f_reduced_of : Addr
  d_reduced_of : FuncData
  reduced_of : Dn K mg "reduced_of" s_reduced_of ["product"] f_reduced_of d_reduced_of
  f_kept_of : Addr
  d_kept_of : FuncData
  kept_of : Dn K mg "kept_of" s_kept_of ["products"] f_kept_of d_kept_of
  f_want_letters : Addr
  d_want_letters : FuncData
  want_letters : Dn K mg "want_letters" s_want_letters ["letters"] f_want_letters d_want_letters
  f_law_pot : Addr
  d_law_pot : FuncData
  law_pot : Dn K mg "_law_pot" s_law_pot ["_law_script", "_law_k"] f_law_pot d_law_pot
  f_law_draw : Addr
  d_law_draw : FuncData
  law_draw : Dn K mg "_law_draw" s_law_draw ["_law_pot_here", "_law_sides"] f_law_draw d_law_draw
  f_law_pick : Addr
  d_law_pick : FuncData
  law_pick : Dn K mg "_law_pick" s_law_pick ["_law_pot_here", "_law_some_here"] f_law_pick d_law_pick
  f_law_mixed : Addr
  d_law_mixed : FuncData
  law_mixed : Dn K mg "_law_mixed" s_law_mixed ["_law_pot_here", "_law_some_here"] f_law_mixed d_law_mixed
  f_law_piece : Addr
  d_law_piece : FuncData
  law_piece : Dn K mg "_law_piece" s_law_piece ["_law_pot_here", "_law_signs_here"] f_law_piece d_law_piece
  f_law_bundle : Addr
  d_law_bundle : FuncData
  law_bundle : Dn K mg "_law_bundle" s_law_bundle ["_law_pot_here", "_law_signs_here", "_law_most"] f_law_bundle d_law_bundle
  f_law_signs : Addr
  d_law_signs : FuncData
  law_signs : Dn K mg "_law_signs" s_law_signs ["_law_pot_here"] f_law_signs d_law_signs
  f_law_go : Addr
  d_law_go : FuncData
  law_go : Dn K mg "_law_go" s_law_go ["_law_bundle_here", "_law_at", "_law_sign"] f_law_go d_law_go
  f_law_next : Addr
  d_law_next : FuncData
  law_next : Dn K mg "_law_next" s_law_next ["_law_some_here", "_law_spots", "_law_sign"] f_law_next d_law_next
  f_law_run : Addr
  d_law_run : FuncData
  law_run : Dn K mg "_law_run" s_law_run ["_law_some_here", "_law_text"] f_law_run d_law_run
  f_law_has : Addr
  d_law_has : FuncData
  law_has : Dn K mg "_law_has" s_law_has ["_law_some_here", "_law_text"] f_law_has d_law_has
  f_law_hits : Addr
  d_law_hits : FuncData
  law_hits : Dn K mg "_law_hits" s_law_hits ["_law_rule", "_law_flags"] f_law_hits d_law_hits
  f_law_apart : Addr
  d_law_apart : FuncData
  law_apart : Dn K mg "_law_apart" s_law_apart ["_law_signs_here", "_law_lists", "_law_rule"] f_law_apart d_law_apart
  f_law_idle : Addr
  d_law_idle : FuncData
  law_idle : Dn K mg "_law_idle" s_law_idle ["_law_pieces"] f_law_idle d_law_idle
  f_law_reduced : Addr
  d_law_reduced : FuncData
  law_reduced : Dn K mg "_law_reduced" s_law_reduced ["_law_bundle_here"] f_law_reduced d_law_reduced
  f_law_kept : Addr
  d_law_kept : FuncData
  law_kept : Dn K mg "_law_kept" s_law_kept ["_law_signs_here", "_law_some_here"] f_law_kept d_law_kept
  f_law_texts : Addr
  d_law_texts : FuncData
  law_texts : Dn K mg "_law_texts" s_law_texts ["_law_signs_here", "_law_most"] f_law_texts d_law_texts
  f_law_some : Addr
  d_law_some : FuncData
  law_some : Dn K mg "_law_some" s_law_some ["_law_pot_here", "_law_signs_here", "_law_many", "_law_most"] f_law_some d_law_some
  f_law_padded : Addr
  d_law_padded : FuncData
  law_padded : Dn K mg "_law_padded" s_law_padded ["_law_pot_here", "_law_bundle_here"] f_law_padded d_law_padded
  f_law_told_right : Addr
  d_law_told_right : FuncData
  law_told_right : Dn K mg "_law_told_right" s_law_told_right ["_law_signs_here", "_law_made", "_law_some_here"] f_law_told_right d_law_told_right
  f_law_in_right : Addr
  d_law_in_right : FuncData
  law_in_right : Dn K mg "_law_in_right" s_law_in_right ["_law_signs_here", "_law_made", "_law_some_here"] f_law_in_right d_law_in_right
  f_law_again_right : Addr
  d_law_again_right : FuncData
  law_again_right : Dn K mg "_law_again_right" s_law_again_right ["_law_pot_here", "_law_signs_here", "_law_made", "_law_some_here"] f_law_again_right d_law_again_right
  f_law_two_right : Addr
  d_law_two_right : FuncData
  law_two_right : Dn K mg "_law_two_right" s_law_two_right ["_law_signs_here", "_law_one", "_law_other"] f_law_two_right d_law_two_right
  f_law_right : Addr
  d_law_right : FuncData
  law_right : Dn K mg "_law_right" s_law_right ["_law_pot_here"] f_law_right d_law_right
  f_law : Addr
  d_law : FuncData
  law : Dn K mg "law" s_law ["_law_script"] f_law d_law
  C_Sum : Addr
  cl_Sum : Cls K C_Sum
  g_Sum : mg "Sum" = some (.ref C_Sum)
  mk_Sum : PySem.W.makesIn K C_Sum = true
  kp_Sum : PySem.W.keepIn K (.ref C_Sum) = true
  ca_Sum : PySem.W.findIn K (.ref C_Sum) "__class__" = some (some (.builtin "object.__class__"))
  cg_Sum : PySem.W.specialIn K (.builtin "object.__class__") "__get__" = some (some (.builtin "getset_descriptor.__get__"))
  ct_Sum : PySem.W.takesIn K (.builtin "object.__class__") = some true
  ne_Sum : PySem.W.findIn K (.ref C_Sum) "__ne__" = some (some (.builtin "object.__ne__"))
  tt_Sum : PySem.W.typeIn K (.ref C_Sum) = some (.type "type")
  ns_Sum : PySem.W.mroIn K C_Sum (.type "str") = some false
  cr_Sum : ClX.CRead K C_Sum (.type "type")
  cv_Sum_MOST_PRODUCTS : ∃ t, ClX.CVal K C_Sum (.type "type") "MOST_PRODUCTS" (.int 60) (.int 60 t)
  n_Sum_own_letters : NoAttr K C_Sum "own_letters"
  n_Sum_own_products : NoAttr K C_Sum "own_products"
  k_Sum_MOST_PRODUCTS : ∃ t, Con K C_Sum "MOST_PRODUCTS" (.int 60) (.int 60 t)
  f_Sum_init : Addr
  d_Sum_init : FuncData
  Sum_init : Dm K C_Sum "__init__" "Sum.__init__" s_Sum_init ["self", "letters", "products"] f_Sum_init d_Sum_init
  f_Sum_products : Addr
  d_Sum_products : FuncData
  Sum_products : Dm K C_Sum "products" "Sum.products" s_Sum_products ["self"] f_Sum_products d_Sum_products
  f_Sum_contains : Addr
  d_Sum_contains : FuncData
  Sum_contains : Dm K C_Sum "__contains__" "Sum.__contains__" s_Sum_contains ["self", "value"] f_Sum_contains d_Sum_contains
  f_Sum_len : Addr
  d_Sum_len : FuncData
  Sum_len : Dm K C_Sum "__len__" "Sum.__len__" s_Sum_len ["self"] f_Sum_len d_Sum_len
  f_Sum_eq : Addr
  d_Sum_eq : FuncData
  Sum_eq : Dm K C_Sum "__eq__" "Sum.__eq__" s_Sum_eq ["self", "other"] f_Sum_eq d_Sum_eq
  f_Sum_repr : Addr
  d_Sum_repr : FuncData
  Sum_repr : Dm K C_Sum "__repr__" "Sum.__repr__" s_Sum_repr ["self"] f_Sum_repr d_Sum_repr
  p_Sum_letters : Addr
  f_Sum_letters : Addr
  d_Sum_letters : FuncData
  Sum_letters : Dp1 K C_Sum "letters" "Sum.letters" s_Sum_letters p_Sum_letters f_Sum_letters d_Sum_letters
  b_abs : mg "abs" = none
  b_all : mg "all" = none
  b_any : mg "any" = none
  b_dict : mg "dict" = none
  b_divmod : mg "divmod" = none
  b_enumerate : mg "enumerate" = none
  b_int : mg "int" = none
  b_isinstance : mg "isinstance" = none
  b_len : mg "len" = none
  b_list : mg "list" = none
  b_max : mg "max" = none
  b_min : mg "min" = none
  b_property : mg "property" = none
  b_range : mg "range" = none
  b_repr : mg "repr" = none
  b_set : mg "set" = none
  b_sorted : mg "sorted" = none
  b_str : mg "str" = none
  b_tuple : mg "tuple" = none
  b_zip : mg "zip" = none
  c_SMALL_basics : ∃ t, mg "SMALL_basics" = some (.str "abcdefghijklmnopqrstuvwxyz" t)
  c_MOST_LETTERS : ∃ t, mg "MOST_LETTERS" = some (.int 3 t)
  c_SMALL_products : ∃ t, mg "SMALL_products" = some (.str "abcdefghijklmnopqrstuvwxyz" t)
  c_STAR : ∃ t, mg "STAR" = some (.str "*" t)
  c_MOST_IN_STAR : ∃ t, mg "MOST_IN_STAR" = some (.int 3 t)
  c_MOST_PIECES : ∃ t, mg "MOST_PIECES" = some (.int 12 t)
  c_LOST : ∃ t, mg "LOST" = some (.int (-1) t)
  c_MOST_PARTS_LETTERS : ∃ t, mg "MOST_PARTS_LETTERS" = some (.int 60 t)
end Lw
namespace L3
open PySem PySem.Spec PyProof.Rows L2
mutual
def keyN : PyData → NestedKey
  | .none => .none
  | .bool b => .num (if b = true then 1 else 0)
  | .int i => .num i
  | .str x => .text x
  | .tuple ds => .tup (keyNs ds)
  | .list _ => .none
  | .dict _ => .none
def keyNs : List PyData → List NestedKey
  | [] => []
  | d :: ds => keyN d :: keyNs ds
end
mutual
def keyable : PyData → Bool
  | .none => true
  | .bool _ => true
  | .int _ => true
  | .str _ => true
  | .tuple ds => keyables ds
  | .list _ => false
  | .dict _ => false
def keyables : List PyData → Bool
  | [] => true
  | d :: ds => keyable d && keyables ds
end
section
variable {X : Cx} {pins : List (Addr × Obj)} {σ : L2.St} {H : Hp} {s : Shared}
mutual
theorem nested_of (I : L2.Inv X pins σ H s) : ∀ (d : PyData) (v : V) (u : Value), Dp X.K H v d → RelV v u → keyable d = true → NestedIs s.heap (keyN d) u
  | .none, _, _, h, r, _ => by
    cases h
    cases r
    exact .none
  | .bool b, _, _, h, r, _ => by
    cases h
    cases r
    exact .bool rfl
  | .int i, _, _, h, r, _ => by
    cases h
    obtain ⟨t, rfl⟩ := r
    exact .int i t
  | .str x, _, _, h, r, _ => by
    cases h
    obtain ⟨t, rfl⟩ := r
    exact .text x t
  | .list ds, _, _, _, _, k => by cases k
  | .dict ds, _, _, _, _, k => by cases k
  | .tuple ds, _, _, h, r, k => by
    cases h with
    | tup hs ha =>
      cases r
      obtain ⟨its, rv, ⟨o, ho, hc, n, hd⟩, _⟩ := I.tuple hs
      exact .tup ho hc hd (by simpa using nested_all I ds _ its ha rv k)
theorem nested_all (I : L2.Inv X pins σ H s) : ∀ (ds : List PyData) (vs : List V) (us : List Value), DpAll X.K H vs ds → Vals vs us → keyables ds = true → NestedAll s.heap (keyNs ds) us
  | [], _, _, h, r, _ => by
    cases h
    cases r
    exact .nil
  | d :: ds, _, _, h, r, k => by
    cases h with
    | cons h1 h2 =>
      cases r with
      | cons r1 r2 =>
        rw [keyables, Bool.and_eq_true] at k
        exact .cons (nested_of I d _ _ h1 r1 k.1) (nested_all I ds _ _ h2 r2 k.2)
end
end
/-- an entry: the key's data, its address, the value -/
abbrev EntN := PyData × Addr × V
def KN : List EntN → List (NestedKey × Addr × Value) → Prop := Paired fun p q => q.1 = keyN p.1 ∧ q.2.1 = p.2.1 ∧ RelV p.2.2 q.2.2
def valN (es : List EntN) (k : NestedKey) : Option V := (es.find? fun x => decide (keyN x.1 = k)).map (·.2.2)
theorem KN.val {es : List EntN} {xs : List (NestedKey × Addr × Value)} (r : KN es xs) (k : NestedKey) : RelO (valN es k) ((atKey xs k).map (·.2)) := by
  unfold KN at r
  induction r with
  | nil => exact True.intro
  | @cons p q ps qs h t ih =>
    obtain ⟨h1, _, h2⟩ := h
    by_cases e : keyN p.1 = k
    · have e' : q.1 = k := h1.trans e
      have b : atKey (q :: qs) k = some q.2 := by simp [atKey, List.find?_cons, e']
      have a : valN (p :: ps) k = some p.2.2 := by simp [valN, List.find?_cons, e]
      rw [a, b]; exact h2
    · have e' : ¬ q.1 = k := fun z => e (h1.symm.trans z)
      have b : atKey (q :: qs) k = atKey qs k := by simp [atKey, List.find?_cons, e']
      have a : valN (p :: ps) k = valN ps k := by simp [valN, List.find?_cons, e]
      rw [a, b]; exact ih
theorem KN.snoc {es : List EntN} {xs : List (NestedKey × Addr × Value)} (r : KN es xs) {p : EntN} {q : NestedKey × Addr × Value} (h : q.1 = keyN p.1 ∧ q.2.1 = p.2.1 ∧ RelV p.2.2 q.2.2) : KN (es ++ [p]) (xs ++ [q]) := Paired.snoc r h
/-- a dict with bools as keys -/
def TB (P : Program) (w : World) (a : Addr) (kvs : List (Bool × V)) : HO := .ext fun h => (a == sysModules) = false ∧ kvs.length ≤ sizeLine ∧ ∃ vs, KV kvs vs ∧ h.DictOf (PpSet.boolK P w) a vs
/-- a dict with tuples of any depth as keys -/
def TN (P : Program) (w : World) (a : Addr) (es : List EntN) : HO := .ext fun h => (a == sysModules) = false ∧ es.length ≤ sizeLine ∧ ∃ xs, KN es xs ∧ (xs.map (·.1)).Nodup ∧ ∃ o ens ep, h.get? a = some o ∧ o.ExactDict ∧ o.data = .dict ens ep ∧ ens.toList = xs.map (entryOfKey (nestedKind P w))
/-- the keys stand -/
def Keys (K : PySem.W.Frag) (H : Hp) (es : List EntN) : Prop := ∀ x ∈ es, Dp K H (.ref x.2.1) x.1 ∧ keyable x.1 = true ∧ (keyN x.1).depth ≤ 8
theorem Keys.same {K : PySem.W.Frag} {H H' : Hp} {es : List EntN} (h : Keys K H es) (s : Same H H') : Keys K H' es := fun x hx => ⟨Dp.same s (h x hx).1, (h x hx).2⟩
/-- what is found at a key -/
def XGet (P : Program) (w : World) (K : PySem.W.Frag) (H : Hp) (a : Addr) (y : V) (o : Option V) : Prop :=
  (∃ kvs b, H a = some (TB P w a kvs) ∧ y = .bl b ∧ valV kvs b = o) ∨
  ∃ es d p, H a = some (TN P w a es) ∧ y = .ref p ∧ Dp K H (.ref p) d ∧ keyable d = true ∧ (keyN d).depth ≤ 8 ∧ Keys K H es ∧ valN es (keyN d) = o
/-- a new key is put in -/
def XPut (P : Program) (w : World) (K : PySem.W.Frag) (H : Hp) (a : Addr) (y v : V) (H' : Hp) : Prop :=
  (∃ kvs b, H a = some (TB P w a kvs) ∧ y = .bl b ∧ kvs.length < sizeLine ∧ H' = upd H a (TB P w a (putK kvs b v))) ∨
  ∃ es d p, H a = some (TN P w a es) ∧ y = .ref p ∧ Dp K H (.ref p) d ∧ keyable d = true ∧ (keyN d).depth ≤ 8 ∧ Keys K H es ∧ valN es (keyN d) = none ∧ es.length < sizeLine ∧ H' = upd H a (TN P w a (es ++ [(d, p, v)]))
section
variable {X : Cx} {pins : List (Addr × Obj)} {σ : L2.St} {H : Hp} {s : Shared} {a : Addr} {A : Around} {E : Value → Shared → Prop} {y v : V} {u r : Value} {o : Option V}
theorem tb_of {P : Program} {w : World} {h : Heap} {kvs : List (Bool × V)} (ok : HOk P w H h) (e : H a = some (TB P w a kvs)) : (a == sysModules) = false ∧ kvs.length ≤ sizeLine ∧ ∃ vs, KV kvs vs ∧ h.DictOf (PpSet.boolK P w) a vs :=
  (show ObjOk P w H h a (TB P w a kvs) from ok a _ e).1
theorem tn_of (I : L2.Inv X pins σ H s) {es : List EntN} (e : H a = some (TN X.prog X.w a es)) (hk : Keys X.K H es) : (a == sysModules) = false ∧ es.length ≤ sizeLine ∧ ∃ xs, KN es xs ∧ s.heap.DictOfH (nestedKind X.prog X.w) a xs := by
  obtain ⟨h1, h2, xs, r, nd, o, ens, ep, h3, h4, h5, h6⟩ := (show ObjOk X.prog X.w H s.heap a (TN X.prog X.w a es) from I.hok a _ e).1
  refine ⟨h1, h2, xs, r, o, ens, ep, h3, h4, h5, h6, fun x hx => ?_, nd⟩
  obtain ⟨i, hi⟩ := List.mem_iff_getElem?.mp hx
  have all : ∀ {l : List EntN} {m : List (NestedKey × Addr × Value)}, KN l m → (∀ z ∈ l, Dp X.K H (.ref z.2.1) z.1 ∧ keyable z.1 = true ∧ (keyN z.1).depth ≤ 8) → ∀ x ∈ m, (nestedKind X.prog X.w).is s.heap x.1 x.2.1 := by
    intro l m q
    unfold KN at q
    induction q with
    | nil => intro _ x hx; exact nomatch hx
    | @cons p q ps qs hq t ih =>
      intro hz x hx
      rcases List.mem_cons.mp hx with e | hx
      · subst e
        obtain ⟨d1, d2, d3⟩ := hz p List.mem_cons_self
        refine ⟨?_, by rw [hq.1]; exact d3⟩
        rw [hq.1, hq.2.1]
        exact nested_of I p.1 _ _ d1 rfl d2
      · exact ih (fun z hz' => hz z (List.mem_cons_of_mem _ hz')) x hx
  exact all r hk x hx
theorem room_n (hu : A.units + 64 < cLine) : (nestedKind X.prog X.w).room A.in1 := by
  show A.in1.units + 8 < cLine
  rw [Around.in1_units]
  omega
theorem x_getItem {Q : Value → Shared → Prop} (hu : A.units + 64 < cLine) (I : L2.Inv X pins σ H s) (g : XGet X.prog X.w X.K H a y (some v)) (ry : RelV y u) (h : ∀ w' s', L2.Inv X pins σ H s' → RelV v w' → Q w' s') :
    wpAny (model X.prog X.w) A (getItem (.ref a) u) Q E s := by
  rcases g with ⟨kvs, k, e, ey, l⟩ | ⟨es, d, p, e, ey, hd, kd, dd, hk, l⟩
  · subst ey
    obtain ⟨hm, z, vs, rel, dd⟩ := tb_of I.hok e
    obtain ⟨w', hw, rw'⟩ := RelO.some_of (v := v) (o := valueAt vs k) (by rw [← l]; exact rel.val k)
    cases ry
    exact wpAny_getItem_of (PpSet.boolK_is _ _ k) dd.mapOf hw (h w' _ (I.tok _) rw')
  · subst ey
    cases (show u = Value.ref p from ry)
    obtain ⟨hm, z, xs, rel, ddd⟩ := tn_of I e hk
    obtain ⟨w', hw, rw'⟩ := RelO.some_of (v := v) (o := (atKey xs (keyN d)).map (·.2)) (by rw [← l]; exact rel.val _)
    obtain ⟨q, hq, hq2⟩ := Option.map_eq_some_iff.mp hw
    refine wpAny_getItem_heap (room_n hu) ⟨nested_of I d _ _ hd rfl kd, dd⟩ ddd hq ?_
    rw [hq2]
    exact h w' _ (I.tok _) rw'
theorem x_notIn {Q : Value → Shared → Prop} (hu : A.units + 64 < cLine) (I : L2.Inv X pins σ H s) (g : XGet X.prog X.w X.K H a y o) (ry : RelV y u) (h : ∀ s', L2.Inv X pins σ H s' → Q (.bool (!o.isSome)) s') :
    wpAny (model X.prog X.w) A (compareOp .NotIn u (.ref a)) Q E s := by
  rcases g with ⟨kvs, k, e, ey, l⟩ | ⟨es, d, p, e, ey, hd, kd, dd, hk, l⟩
  · subst ey
    obtain ⟨hm, z, vs, rel, dd⟩ := tb_of I.hok e
    cases ry
    refine wpAny_notIn_of (PpSet.boolK_is _ _ k) hm dd.mapOf ?_
    rw [← (rel.val k).isSome_eq, l]
    exact h _ (I.tok _)
  · subst ey
    cases (show u = Value.ref p from ry)
    obtain ⟨hm, z, xs, rel, ddd⟩ := tn_of I e hk
    refine wpAny_notIn_heap (room_n hu) ⟨nested_of I d _ _ hd rfl kd, dd⟩ hm ddd ?_
    have q := (rel.val (keyN d)).isSome_eq
    rw [Option.isSome_map] at q
    rw [← q, l]
    exact h _ (I.tok _)
theorem x_setItem {H' : Hp} {Q : Unit → Shared → Prop} (hu : A.units + 64 < cLine) (I : L2.Inv X pins σ H s) (g : XPut X.prog X.w X.K H a y v H') (ry : RelV y u) (rv : RelV v r) (h : ∀ s', L2.Inv X pins σ H' s' → Q () s') :
    wpAny (model X.prog X.w) A (setItem (.ref a) u r) Q E s := by
  rcases g with ⟨kvs, k, e, ey, l, eH⟩ | ⟨es, d, p, e, ey, hd, kd, dd, hk, hnone, l, eH⟩
  · subst ey eH
    obtain ⟨hm, z, vs, rel, dd⟩ := tb_of I.hok e
    cases ry
    have hz : vs.length ≤ sizeLine := by rw [← rel.length]; exact z
    have hl : (putK kvs k v).length ≤ sizeLine := by have := length_putK kvs k v; omega
    refine wpAny_setItem_pairs (hsz := hz) (PpSet.boolK_is _ _ k) dd fun h' dd' hs => h _ ?_
    have he : ∃ q, h'.get? a = some q := let ⟨q, _, _, hq, _⟩ := dd'; ⟨q, hq⟩
    exact d_write I (by rw [e]; exact True.intro) hs he ⟨⟨hm, hl, _, rel.put k rv, dd'⟩, he, fun h1 h2 ⟨a1, a2, ws, a3, q, en, ep, b1, b2, b3⟩ k => ⟨a1, a2, ws, a3, q, en, ep, k _ b1, b2, b3⟩⟩
  · subst ey eH
    cases (show u = Value.ref p from ry)
    obtain ⟨hm, z, xs, rel, ddd⟩ := tn_of I e hk
    have hz : xs.length ≤ sizeLine := by rw [← Paired.length rel]; exact z
    have hnew : atKey xs (keyN d) = none := by
      have q := (rel.val (keyN d)).isSome_eq
      rw [hnone, Option.isSome_map] at q
      cases e2 : atKey xs (keyN d) with
      | none => rfl
      | some x => rw [e2] at q; cases q
    refine wpAny_setItem_heap (hsz := hz) (room_n hu) ⟨nested_of I d _ _ hd rfl kd, dd⟩ ddd fun h' dd' hs => h _ ?_
    rw [storedH_new hnew] at dd'
    obtain ⟨q, ens, ep, hq, h2, h3, h4, _, h5⟩ := dd'
    refine d_write I (by rw [e]; exact True.intro) hs ⟨q, hq⟩ ⟨⟨hm, by rw [List.length_append]; exact l, _, rel.snoc (p := (d, p, v)) ⟨rfl, rfl, rv⟩, h5, q, ens, ep, hq, h2, h3, h4⟩, ⟨q, hq⟩, fun h1 h2 ⟨a1, a2, ws, a3, a4, q, en, ep, b1, b2⟩ k => ⟨a1, a2, ws, a3, a4, q, en, ep, k _ b1, b2⟩⟩
theorem x_typeIs (I : L2.Inv X pins σ H s) (g : XGet X.prog X.w X.K H a y o) : s.TypeIs (.ref a) "dict" := by
  rcases g with ⟨kvs, k, e, _, _⟩ | ⟨es, d, p, e, _, _, _, _, hk, _⟩
  · obtain ⟨_, _, vs, _, dd⟩ := tb_of I.hok e
    exact dd.typeIs
  · obtain ⟨_, _, xs, _, dd⟩ := tn_of I e hk
    exact dd.typeIs
end
def tXGet (P : Program) (w : World) (K : PySem.W.Frag) (td ty : TE) : TE := fun σ H Q => td σ H fun x H1 => ty σ H1 fun y H2 => ∃ a v, x = .ref a ∧ XGet P w K H2 a y (some v) ∧ Q v H2
def tXNotIn (P : Program) (w : World) (K : PySem.W.Frag) (ty td : TE) : TE := fun σ H Q => ty σ H fun y H1 => td σ H1 fun x H2 => ∃ a o, x = .ref a ∧ XGet P w K H2 a y o ∧ Q (.bl (!o.isSome)) H2
def sXPut (P : Program) (w : World) (K : PySem.W.Frag) (td ty tv : TE) : TS := fun D σ H => tv σ H fun v H1 => td σ H1 fun x H2 => ty σ H2 fun y H3 => ∃ a H4, x = .ref a ∧ XPut P w K H3 a y v H4 ∧ D.nx σ H4
section
variable {X : Cx} {o i e value : Expr} {pos pos' tpos : Pos} {td ty tv : TE}
theorem pe_xget (hu : X.A.units + 64 < cLine) (ho : PE X o td) (hi : PE X i ty) (hs : L2.NoSl i) : PE X (.Subscript o i pos) (tXGet X.prog X.w X.K td ty) := by
  refine ⟨fun pins s σ H Q I h => ?_⟩
  refine subD_of PySem.F.slot_dict_getitem.lookup hs (thn (ho.run pins s σ H _ I h) fun u s1 ⟨x, H1, I1, rx, q1⟩ => thn (hi.run pins s1 σ H1 _ I1 q1) fun iv s2 ⟨y, H2, I2, ry, a, v, ex, g, q2⟩ => ?_)
  subst ex
  obtain rfl : u = Value.ref a := rx
  exact ⟨x_typeIs I2 g, x_getItem hu I2 g ry fun w' s3 I3 rw' => ⟨v, H2, I3, rw', q2⟩⟩
theorem pc_xnotin (hu : X.A.units + 64 < cLine) (hi : PE X i ty) (ho : PE X o td) : PC X .NotIn i o (tXNotIn X.prog X.w X.K ty td) := by
  refine ⟨fun pins s σ H Q I h => ?_⟩
  refine thn (hi.run pins s σ H _ I h) fun iv s1 ⟨y, H1, I1, ry, q1⟩ => thn (ho.run pins s1 σ H1 _ I1 q1) fun u s2 ⟨x, H2, I2, rx, a, ov, ex, g, q2⟩ => ?_
  subst ex
  obtain rfl : u = Value.ref a := rx
  exact x_notIn hu I2 g ry fun s3 I3 => ⟨.bl (!ov.isSome), H2, I3, rfl, q2⟩
theorem ps_xput (hu : X.A.units + 64 < cLine) (ho : PE X o td) (hi : PE X i ty) (hv : PE X value tv) (hs : swapsWith value (some (.Subscript o i pos')) pos.line X.env = pure false) :
    PS X (.Assign [.Subscript o i pos'] value pos) (sXPut X.prog X.w X.K td ty tv) := by
  refine ⟨fun pins s σ H D I h => ?_⟩
  refine wpAny_Assign_Subscript (thn (hv.run pins s σ H _ I h) fun r s1 ⟨v, H1, I1, rv, q1⟩ => thn (ho.run pins s1 σ H1 _ I1 q1) fun u s2 ⟨x, H2, I2, rx, q2⟩ => thn (hi.run pins s2 σ H2 _ I2 q2) fun iv s3 ⟨y, H3, I3, ry, a, H4, ex, g, q3⟩ => ?_) hs
  subst ex
  obtain rfl : u = Value.ref a := rx
  exact x_setItem hu I3 g ry rv fun s4 I4 => ⟨σ, H4, I4, q3⟩
end
end L3
namespace L3
open PySem PySem.Spec PyProof.Rows L2
/-- a kind of objects that can be members of a set -/
structure SK (P : Program) (w : World) (K : Type) [DecidableEq K] where
  kd : HeapKind P w K
  ofc : ∀ {A : Around} {E : Value → Shared → Prop} {s : Shared} {k : K} {b : Addr} {Q : Bool → Shared → Prop}, kd.is s.heap k b → Q false s → wpAny (model P w) A (ofAClassStatement 8 (.ref b)) Q E s
  hbv : ∀ {A : Around} {E : Value → Shared → Prop} {s : Shared} {k : K} {b : Addr} {Q : Bool → Shared → Prop}, kd.is s.heap k b → (∀ c, Q c s) → wpAny (model P w) A (hashByValue 8 (.ref b)) Q E s
  stays : ∀ {h h' : Heap} {k : K} {b : Addr}, kd.is h k b → (∀ c o vs n, h.get? c = some o → o.data = .seq vs n → h'.get? c = some o) → kd.is h' k b
section
variable {P : Program} {w : World} {K : Type} [DecidableEq K]
/-- what the set's rows are -/
def mems (m : SK P w K) (L : List (Addr × K)) : List (Int × Value) := L.map fun p => (m.kd.hash p.2, Value.ref p.1)
def hshs (m : SK P w K) (L : List (Addr × K)) : List Int := L.map fun p => m.kd.hash p.2
/-- the set at a, with its members L in the table's order -/
structure SetM (m : SK P w K) (h : Heap) (a : Addr) (L : List (Addr × K)) (es : Array (Int × Value)) (ep : Nat) (t : SetTable) : Prop where
  obj : ∃ o, h.get? a = some o ∧ o.ExactSet ∧ o.data = .set es ep t
  row : es.toList = mems m L
  tab : TabOk t (hshs m L)
  dis : (L.map Prod.snd).Nodup
  key : ∀ p ∈ L, m.kd.is h p.2 p.1
  ord : w.params.followText "set-order" = true ∨ t.led = true
  rm : L.length * 5 < t.mask * 3
  lt : L.length < 64
variable {m : SK P w K} {A : Around} {E : Value → Shared → Prop} {s : Shared} {a : Addr} {L : List (Addr × K)} {es : Array (Int × Value)} {ep : Nat} {t : SetTable}
theorem mems_len (m : SK P w K) (L : List (Addr × K)) : (mems m L).length = L.length := by unfold mems; rw [List.length_map]
theorem hshs_len (m : SK P w K) (L : List (Addr × K)) : (hshs m L).length = L.length := by unfold hshs; rw [List.length_map]
theorem rows_size (h : es.toList = mems m L) : es.size = L.length := by rw [← Array.length_toList, h, mems_len]
theorem rows_at (h : es.toList = mems m L) {i : Nat} {p : Addr × K} (e : L[i]? = some p) : es[i]? = some (m.kd.hash p.2, Value.ref p.1) := by
  rw [← Array.getElem?_toList, h, mems, List.getElem?_map, e, Option.map_some]
theorem SetM.fits (R : SetM m s.heap a L es ep t) : t.fits es.size = true := by
  have z := R.tab.sz
  rw [hshs_len] at z
  have q := rows_size R.row
  have u := R.rm
  simp only [SetTable.fits, SetTable.fill, R.tab.dm, Bool.and_eq_true, beq_iff_eq, decide_eq_true_eq]
  exact ⟨by omega, by show t.place.size + 0 ≤ t.mask; omega⟩
theorem odd_mask (R : SetM m s.heap a L es ep t) : ¬ t.gaveWay = true := by
  unfold SetTable.gaveWay
  rw [mask_odd R.tab.mok]
  decide
/-- nobody sees a search among such members -/
theorem unseen {x : Addr} {k : K} {Q : Bool → Shared → Prop} (hx : m.kd.is s.heap k x) : ∀ {ys : List Value}, (∀ y ∈ ys, ∃ c k', y = Value.ref c ∧ m.kd.is s.heap k' c) → Q false s → wpAny (model P w) A (searchCouldBeSeen (.ref x) ys) Q E s := by
  intro ys hy q
  unfold searchCouldBeSeen
  refine wpAny_bind (wpAny_forIn_list _ (fun rest r s' => r.1 = none ∧ s' = s ∧ ∀ y ∈ rest, ∃ c k', y = Value.ref c ∧ m.kd.is s.heap k' c) _ (fun v rest r s' i => ?_) (fun r s' i => ?_) _ _ ⟨rfl, rfl, hy⟩)
  · obtain ⟨_, rfl, al⟩ := i
    obtain ⟨c, k', rfl, hc⟩ := al v List.mem_cons_self
    have next := fun u hu => al u (List.mem_cons_of_mem _ hu)
    dsimp only
    by_cases hv : (x == c || (carriedByValue (.ref x) && carriedByValue (.ref c))) = true
    · exact wp_if_pos hv (wpAny_pure ⟨rfl, rfl, next⟩)
    · refine wp_if_neg hv (wpAny_bind (m.kd.quiet hx ?_))
      simp only [Bool.not_true, Bool.false_eq_true, if_false]
      refine wpAny_bind (m.kd.quiet hc ?_)
      simp only [Bool.not_true, Bool.false_eq_true, if_false]
      refine wpAny_bind (m.ofc hx ?_)
      simp only [Bool.false_eq_true, if_false]
      refine wpAny_bind (m.ofc hc ?_)
      simp only [Bool.false_eq_true, if_false]
      exact wpAny_pure ⟨rfl, rfl, next⟩
  · obtain ⟨hr, rfl, _⟩ := i
    obtain ⟨r1, r2⟩ := r
    dsimp only at hr
    subst hr
    exact wpAny_pure q
/-- the c-th step of the way of a hash -/
abbrev stp (t : SetTable) (h : Int) (c : Nat) : SetTable.Probe := nth t.mask (runAt t.mask (SetTable.bits h % (t.mask + 1)) (SetTable.bits h)) c
theorem stp_add (t : SetTable) (h : Int) (c q : Nat) : nth t.mask (stp t h c) q = stp t h (c + q) := (nth_add t.mask c _ q).symm
theorem nth_clean {k : Nat} : ∀ (n : Nat) (p : SetTable.Probe), p.dummy = none → (nth k p n).dummy = none
  | 0, _, e => e
  | n + 1, p, e => nth_clean n (adv k p) (by unfold adv; split <;> exact e)
theorem stp_clean (t : SetTable) (h : Int) (c : Nat) : (stp t h c).dummy = none := by
  exact nth_clean c _ rfl
/-- THE SEARCH for k, from step c on -/
theorem look_from (R : SetM m s.heap a L es ep t) {x : Addr} {k : K} (hx : m.kd.is s.heap k x) (hu : m.kd.room A) {N : Nat} (hN : N < 10 * SetTable.turns t.mask) (hfree : way t.mask (m.kd.hash k) N ∉ t.place.toList)
    (hfull : ∀ c, c < N → way t.mask (m.kd.hash k) c ∈ t.place.toList) {Q : SetFound → Shared → Prop} (q1 : k ∈ L.map Prod.snd → Q (.there none) s) (q2 : k ∉ L.map Prod.snd → Q (.free (way t.mask (m.kd.hash k) N) false) s) :
    ∀ (f c : Nat) (st : Option SetTable.Probe), st.getD (t.probeStart (m.kd.hash k)) = stp t (m.kd.hash k) c → c ≤ N → N - c < f →
      (∀ (i : Nat) p, L[i]? = some p → p.2 = k → ∃ d, c ≤ d ∧ d < N ∧ t.place.toList[i]? = some (way t.mask (m.kd.hash k) d)) →
      wpAny (model P w) A (setSearchFrom a (.ref x) (m.kd.hash k) true f st) Q E s
  | 0, _, _, _, _, z, _ => absurd z (Nat.not_lt_zero _)
  | f + 1, c, st, hst, hc, hf, hre => by
    obtain ⟨o, ho, hex, hd⟩ := R.obj
    have hL : ∀ {i : Nat} {p : Addr × K}, L[i]? = some p → ((fun i => (es[i]?.map (·.1)).getD 0) i : Int) = m.kd.hash p.2 := fun {i p} e => by
      show (es[i]?.map (·.1)).getD 0 = _
      rw [rows_at R.row e]
      rfl
    have hj : ∀ q, (nth t.mask (stp t (m.kd.hash k) c) q).j = way t.mask (m.kd.hash k) (c + q) := fun q => congrArg SetTable.Probe.j (stp_add t (m.kd.hash k) c q)
    have found := go_spec t R.tab.ris R.tab.dm (fun i => (es[i]?.map (·.1)).getD 0) (m.kd.hash k) (10 * SetTable.turns t.mask) (N - c) (stp t (m.kd.hash k) c) (stp_clean t _ c) (by omega)
      (fun q hq => by rw [hj]; exact hfull _ (by omega)) (by rw [hj, Nat.add_sub_cancel' hc]; exact hfree)
    rw [setSearchFrom_succ]
    refine wpAny_bind (wpAny_setState_of ho hd R.fits ?_)
    dsimp only
    refine wp_if_neg (odd_mask R) ?_
    try refine wpAny_bind (wpAny_pure ?_)
    rcases found with ⟨q, i, hq, hi, _, before, pr⟩ | ⟨none_eq, pr⟩
    · have pr' : t.probe (fun i => (es[i]?.map (·.1)).getD 0) (m.kd.hash k) (st.getD (t.probeStart (m.kd.hash k))) = some (.candidate (way t.mask (m.kd.hash k) (c + q)) i (stp t (m.kd.hash k) (c + (q + 1)))) := by
        rw [hst, ← hj, ← stp_add]
        exact pr
      rw [hj] at hi
      rw [pr']
      dsimp only
      obtain ⟨p, hp⟩ : ∃ p, L[i]? = some p := by
        have z1 := (List.getElem?_eq_some_iff.mp hi).1
        have z2 := R.tab.sz
        rw [hshs_len] at z2
        rw [Array.length_toList] at z1
        exact ⟨_, List.getElem?_eq_getElem (by omega)⟩
      have hpm := List.mem_of_getElem? hp
      have hslot : t.slot (way t.mask (m.kd.hash k) (c + q)) = .live i := slot_live R.tab.ris hi
      have behind : wpAny (model P w) A (searchRest a (.ref x) (m.kd.hash k) true f es t (way t.mask (m.kd.hash k) (c + q)) i (stp t (m.kd.hash k) (c + (q + 1)))) Q E s := by
        unfold searchRest
        rw [rows_at R.row hp]
        dsimp only
        refine wpAny_bind (wpAny_holding (m.kd.eqBool hu (R.key p hpm) hx ?_))
        refine wpAny_bind (wpAny_setState_of ho hd R.fits ?_)
        dsimp only
        by_cases e : p.2 = k
        · exact wp_if_pos (by simp [e]) (wpAny_pure (q1 (List.mem_map.mpr ⟨p, hpm, e⟩)))
        · refine wp_if_neg (by simp [e]) ?_
          try refine wpAny_bind (wpAny_pure ?_)
          rw [sameMem]
          dsimp only
          simp only [if_true, hslot, rows_at R.row hp]
          refine wpAny_bind (wpAny_isSame_ref_self (wpAny_bind (wpAny_pure ?_)))
          simp only [if_true]
          refine wp_if_neg (by simp [e]) (look_from R hx hu hN hfree hfull q1 q2 f (c + (q + 1)) _ rfl (by omega) (by omega) fun j r hr er => ?_)
          obtain ⟨d, d1, d2, d3⟩ := hre j r hr er
          refine ⟨d, Classical.byContradiction fun z => ?_, d2, d3⟩
          by_cases hd' : d = c + q
          · rw [hd'] at d3
            have := slot_live R.tab.ris d3
            rw [hslot] at this
            injection this with this
            rw [← this, hp] at hr
            exact e (by rw [Option.some.inj hr]; exact er)
          · refine before (d - c) j (by omega) (by rw [hj, Nat.add_sub_cancel' d1]; exact d3) ?_
            exact (hL hr).trans (congrArg m.kd.hash er)
      by_cases hl : t.led = true
      · refine wp_if_neg (by simp [hl]) ?_
        try refine wpAny_bind (wpAny_pure ?_)
        exact behind
      · refine wp_if_pos (by simp [hl]) (wpAny_bind (unseen hx (fun y hy => ?_) ?_))
        · obtain ⟨u, hu1, rfl⟩ := List.mem_map.mp hy
          have hu2 : u ∈ es.toList := by
            have := hu1
            simp only [Array.mem_toList_iff, Array.mem_filter] at this
            exact Array.mem_toList_iff.mpr this.1
          rw [R.row] at hu2
          obtain ⟨r, hr, rfl⟩ := List.mem_map.mp hu2
          exact ⟨r.1, r.2, rfl, R.key r hr⟩
        · refine wp_if_neg (by decide) ?_
          try refine wpAny_bind (wpAny_pure ?_)
          exact behind
    · have pr' : t.probe (fun i => (es[i]?.map (·.1)).getD 0) (m.kd.hash k) (st.getD (t.probeStart (m.kd.hash k))) = some (.empty (way t.mask (m.kd.hash k) N) none) := by
        have e : way t.mask (m.kd.hash k) N = (nth t.mask (stp t (m.kd.hash k) c) (N - c)).j := by rw [hj, Nat.add_sub_cancel' hc]
        rw [hst, e]
        exact pr
      rw [pr']
      dsimp only
      refine wpAny_pure (q2 fun hm => ?_)
      obtain ⟨r, hr, er⟩ := List.mem_map.mp hm
      obtain ⟨j, hj'⟩ := List.mem_iff_getElem?.mp hr
      obtain ⟨d, d1, d2, d3⟩ := hre j r hj' er
      refine none_eq (d - c) j (by omega) (by rw [hj, Nat.add_sub_cancel' d1]; exact d3) ?_
      exact (hL hj').trans (congrArg m.kd.hash er)
/-- the search, whole -/
theorem look (R : SetM m s.heap a L es ep t) {x : Addr} {k : K} (hx : m.kd.is s.heap k x) (hu : m.kd.room A) {Q : SetFound → Shared → Prop} (q1 : k ∈ L.map Prod.snd → Q (.there none) s)
    (q2 : ∀ N, k ∉ L.map Prod.snd → way t.mask (m.kd.hash k) N ∉ t.place.toList → (∀ c, c < N → way t.mask (m.kd.hash k) c ∈ t.place.toList) → Q (.free (way t.mask (m.kd.hash k) N) false) s) :
    wpAny (model P w) A (setSearch a (.ref x) (m.kd.hash k) true) Q E s := by
  have room := R.rm
  obtain ⟨N, n1, n2, n3⟩ := R.tab.first (by rw [hshs_len]; omega) (m.kd.hash k)
  have big : 10 * SetTable.turns t.mask ≤ 1420 := by
    unfold SetTable.turns
    rcases R.tab.mok with e | e | e <;> omega
  unfold setSearch
  refine look_from R hx hu n1 n2 n3 q1 (fun z => q2 N z n2 n3) 100000 0 none rfl (Nat.zero_le _) (by omega) fun i p hp e => ?_
  have hh : (hshs m L)[i]? = some (m.kd.hash k) := by unfold hshs; rw [List.getElem?_map, hp, Option.map_some, e]
  have hi : i < t.place.toList.length := by
    have z1 := (List.getElem?_eq_some_iff.mp hp).1
    have z2 := R.tab.sz
    rw [hshs_len] at z2
    rw [Array.length_toList]
    omega
  obtain ⟨d, d1, d2⟩ := R.tab.before n2 hh (List.getElem?_eq_getElem hi)
  exact ⟨d, Nat.zero_le _, d1, by rw [List.getElem?_eq_getElem hi, d2]⟩
theorem key_but {h h' : Heap} {k : K} {a b : Addr} {o : Obj} {es : Array (Int × Value)} {ep : Nat} {t : SetTable} (hk : m.kd.is h k b) (ho : h.get? a = some o) (hd : o.data = .set es ep t) (hs : Heap.SameBut a h h') : m.kd.is h' k b :=
  m.stays hk fun c u vs n e z => (hs.2 c fun w => by
    subst w
    rw [ho] at e
    cases e
    rw [hd] at z
    cases z).trans e
theorem mems_put (L : List (Addr × K)) (p : Nat) (x : Addr) (k : K) : mems m (L.take p ++ (x, k) :: L.drop p) = (mems m L).take p ++ (m.kd.hash k, Value.ref x) :: (mems m L).drop p := by
  simp only [mems, List.map_append, List.map_cons, List.map_take, List.map_drop]
theorem hshs_put (L : List (Addr × K)) (p : Nat) (x : Addr) (k : K) : hshs m (L.take p ++ (x, k) :: L.drop p) = (hshs m L).take p ++ m.kd.hash k :: (hshs m L).drop p := by
  simp only [hshs, List.map_append, List.map_cons, List.map_take, List.map_drop]
theorem filterMap_range {α : Type} (l : List α) : (List.range l.length).filterMap (fun i => l[i]?) = l := by
  induction l with
  | nil => rfl
  | cons x l ih =>
    rw [List.length_cons, List.range_succ_eq_map]
    simpa [List.filterMap_cons, List.filterMap_map, Function.comp_def] using ih
/-- the members in another order -/
theorem reorder (hr : es.toList = mems m L) {od : Array Nat} (hp : od.toList.Perm (List.range L.length)) :
    ∃ L', (od.filterMap (es[·]?)).toList = mems m L' ∧ L'.Perm L ∧ hshs m L' = od.toList.map fun i => (es.map (·.1)).getD i 0 := by
  have go : ∀ l : List Nat, (∀ i ∈ l, i < L.length) → l.filterMap (es[·]?) = mems m (l.filterMap (L[·]?)) ∧ hshs m (l.filterMap (L[·]?)) = l.map fun i => (es.map (·.1)).getD i 0 := by
    intro l
    induction l with
    | nil => intro _; exact ⟨rfl, rfl⟩
    | cons i l ih =>
      intro hl
      obtain ⟨p, hp⟩ : ∃ p, L[i]? = some p := ⟨_, List.getElem?_eq_getElem (hl i List.mem_cons_self)⟩
      obtain ⟨e1, e2⟩ := ih fun j hj => hl j (List.mem_cons_of_mem _ hj)
      have g : (es.map (·.1)).getD i 0 = m.kd.hash p.2 := by
        have : (es.map (·.1))[i]? = some (m.kd.hash p.2) := by rw [Array.getElem?_map, rows_at hr hp]; rfl
        simp [Array.getD_eq_getD_getElem?, this]
      refine ⟨?_, ?_⟩
      · rw [List.filterMap_cons_some (rows_at hr hp), List.filterMap_cons_some hp, e1]
        rfl
      · rw [List.filterMap_cons_some hp, List.map_cons, ← e2, g]
        rfl
  obtain ⟨e1, e2⟩ := go od.toList fun i hi => List.mem_range.mp (hp.mem_iff.mp hi)
  refine ⟨od.toList.filterMap (L[·]?), by first | (rw [Array.toList_filterMap]; exact e1) | simpa using e1, ?_, e2⟩
  have := hp.filterMap (L[·]?)
  rwa [filterMap_range] at this
/-- the table laid anew -/
theorem relay {o : Obj} (ho : s.heap.get? a = some o) (hex : o.ExactSet) (hd : o.data = .set es ep t) (hr : es.toList = mems m L) (hz : t.place.size = es.size) (hm : t.dummies = #[]) (hl : es.size ≤ t.mask) (dis : (L.map Prod.snd).Nodup)
    (key : ∀ p ∈ L, m.kd.is s.heap p.2 p.1) (ord : w.params.followText "set-order" = true ∨ t.led = true) (lt : L.length < 64) {wanted M : Nat} (h1 : SetTable.sizeAbove wanted - 1 = M) (h2 : MaskOk M) (h3 : SetTable.sizeAbove wanted ≤ 128)
    (h4 : L.length * 5 < M * 3) {Q : Unit → Shared → Prop} (q : ∀ h' L' es' ep' t', Heap.SameBut a s.heap h' → SetM m h' a L' es' ep' t' → L'.Perm L → Q () { s with heap := h' }) : wpAny (model P w) A (setRelay a wanted) Q E s := by
  have z := rows_size hr
  obtain ⟨t', od, e, hp, T, u1, u2, u3, u4⟩ := relaid_ok t (hs := es.map (·.1)) (wanted := wanted) h1 h2 (by rw [Array.size_map]; omega)
  rw [Array.size_map, z] at hp
  obtain ⟨L', r1, r2, r3⟩ := reorder hr hp
  rw [← r3] at T
  have z' : (od.filterMap (es[·]?)).size = es.size := by rw [rows_size r1, r2.length_eq, z]
  have fits : t.fits es.size = true := by
    simp only [SetTable.fits, SetTable.fill, hm, Bool.and_eq_true, beq_iff_eq, decide_eq_true_eq]
    exact ⟨hz, by show t.place.size + 0 ≤ t.mask; omega⟩
  rw [setRelay_eq]
  refine wpAny_bind (wpAny_setState_of ho hd fits ?_)
  dsimp only
  refine wp_if_neg (by rw [sizeLine_eq]; omega) ?_
  try refine wpAny_bind (wpAny_pure ?_)
  rw [e]
  dsimp only
  refine wpAny_bind (wp_if_neg (by rw [z']; simp) ?_)
  try refine wpAny_bind (wpAny_pure ?_)
  refine wpAny_pure (wpAny_storeSet_of ho hd ?_ (by dsimp only; rw [z', sizeLine_eq]; omega))
  have sb : Heap.SameBut a s.heap (s.heap.update a (Obj.putSet (od.filterMap (es[·]?)) t')) := Heap.SameBut.update ..
  exact q _ L' _ (ep + 1) t' sb ⟨⟨_, store_at ho hd, ⟨hex.1, hex.2.1, hex.2.2⟩, rfl⟩, r1, T, (r2.map _).nodup_iff.mpr dis, fun p hp => key_but (key p (r2.mem_iff.mp hp)) ho hd sb, by rw [u2]; exact ord, by rw [r2.length_eq, u1]; exact h4, by rw [r2.length_eq]; exact lt⟩ r2
/-- a member more -/
theorem joinM (R : SetM m s.heap a L es ep t) {x : Addr} {k : K} (hx : m.kd.is s.heap k x) (hu : m.kd.room A) (lt : L.length + 1 < 64) {Q : Bool → Shared → Prop}
    (q : ∀ b h' L' es' ep' t', Heap.SameBut a s.heap h' → SetM m h' a L' es' ep' t' → (k ∈ L.map Prod.snd → L' = L) → (k ∉ L.map Prod.snd → L'.Perm ((x, k) :: L)) → Q b { s with heap := h' }) :
    wpAny (model P w) A (setAddHashed a (.ref x) (m.kd.hash k)) Q E s := by
  obtain ⟨o, ho, hex, hd⟩ := R.obj
  have z := rows_size R.row
  have rm := R.rm
  unfold setAddHashed
  refine wpAny_holding ?_
  rw [show (100000 : Nat) = 99999 + 1 from rfl, setAddHashedIn_succ]
  refine wpAny_bind (wpAny_setState_of ho hd R.fits ?_)
  dsimp only
  refine wp_if_neg (by simp [byScan, Value.scannable]) ?_
  try refine wpAny_bind (wpAny_pure ?_)
  refine wpAny_bind (look R hx hu (fun hm => ?_) fun N hm hN hb => ?_)
  · exact wpAny_pure (q false s.heap L es ep t (Heap.SameBut.refl a s.heap) R (fun _ => rfl) fun z => absurd hm z)
  dsimp only
  refine wpAny_bind (wpAny_setState_of ho hd R.fits ?_)
  dsimp only
  obtain ⟨q1, q2, q3, q4, q5, q6, q7, q8, q9⟩ := R.tab.put hN hb
  rw [hshs_len] at q2 q9
  rw [← hshs_put (x := x)] at q3
  generalize hput : t.put (way t.mask (m.kd.hash k) N) = pt at *
  obtain ⟨t1, p⟩ := pt
  dsimp only at *
  subst q1
  generalize SetTable.below t.place (way t.mask (m.kd.hash k) N) = p at *
  have row1 : (SetTable.insertAt es p (m.kd.hash k, Value.ref x)).toList = mems m (L.take p ++ (x, k) :: L.drop p) := by
    rw [SetTable.toList_insertAt, mems_put, R.row]
  have pm := put_perm L p (x, k)
  generalize L.take p ++ (x, k) :: L.drop p = L1 at *
  generalize SetTable.insertAt es p (m.kd.hash k, Value.ref x) = es1 at *
  have len : L1.length = L.length + 1 := pm.length_eq
  have z1 : es1.size = L.length + 1 := by rw [rows_size row1, len]
  have dis1 : (L1.map Prod.snd).Nodup := (pm.map Prod.snd).nodup_iff.mpr (by rw [List.map_cons]; exact List.nodup_cons.mpr ⟨hm, R.dis⟩)
  have behind : ∀ t2 : SetTable, TabOk t2 (hshs m L1) → t2.mask = t.mask → t2.led = t.led → t2.fill = L.length + 1 → wpAny (model P w) A (do
      storeSet a es1 t2
      if (!false && t2.tooFull) = true then do
          setRelay a (SetTable.grown (es.size + 1))
          pure true
        else pure true) Q E s := fun t1 q3 q4 q5 q9 => by
    refine wpAny_bind (wpAny_storeSet_of ho hd ?_ (by rw [z1, sizeLine_eq]; omega))
    have sb : Heap.SameBut a s.heap (s.heap.update a (Obj.putSet es1 t1)) := Heap.SameBut.update ..
    have at1 := store_at (es' := es1) (t' := t1) ho hd
    generalize s.heap.update a (Obj.putSet es1 t1) = h1 at *
    have key1 : ∀ r ∈ L1, m.kd.is h1 r.2 r.1 := fun r hr => by
      rcases List.mem_cons.mp (pm.mem_iff.mp hr) with rfl | hr
      · exact key_but hx ho hd sb
      · exact key_but (R.key r hr) ho hd sb
    have ord1 : w.params.followText "set-order" = true ∨ t1.led = true := by rw [q5]; exact R.ord
    have full_iff : t1.tooFull = decide ((L.length + 1) * 5 ≥ t1.mask * 3) := by unfold SetTable.tooFull; rw [q9]
    by_cases hf : t1.tooFull = true
    · have full := hf
      rw [full_iff, decide_eq_true_eq, q4] at full
      first
        | (refine wpAny_bind ?_; refine wp_if_pos (by simp [hf]) ?_)
        | (refine wp_if_pos (by simp [hf]) ?_; refine wpAny_bind ?_)
      have pz : t1.place.size = es1.size := by rw [q3.sz, hshs_len, len, z1]
      have step : ∀ M, SetTable.sizeAbove (SetTable.grown (es.size + 1)) - 1 = M → MaskOk M → SetTable.sizeAbove (SetTable.grown (es.size + 1)) ≤ 128 → (L.length + 1) * 5 < M * 3 → es1.size ≤ t1.mask →
          wpAny (model P w) A (setRelay a (SetTable.grown (es.size + 1))) (fun _ s' => wpAny (model P w) A (pure true) Q E s') E { s with heap := h1 } := fun M a1 a2 a3 a4 a5 =>
        relay (s := { s with heap := h1 }) at1 ⟨hex.1, hex.2.1, hex.2.2⟩ rfl row1 pz q3.dm a5 dis1 key1 ord1 (by rw [len]; exact lt) a1 a2 a3 (by rw [len]; exact a4) fun h2 L2 es2 ep2 t2 sb2 R2 pm2 =>
          wpAny_pure (q true h2 L2 es2 ep2 t2 (sb.trans sb2) R2 (fun z => absurd z hm) fun _ => pm2.trans pm)
      rcases R.tab.mok with e | e | e
      · have l4 : L.length = 4 := by rw [e] at full rm; omega
        exact step 31 (by rw [z, l4, size_20]) (.inr (.inl rfl)) (by rw [z, l4, size_20]; decide) (by omega) (by rw [z1, q4, e]; omega)
      · have l18 : L.length = 18 := by rw [e] at full rm; omega
        exact step 127 (by rw [z, l18, size_76]) (.inr (.inr rfl)) (by rw [z, l18, size_76]; decide) (by omega) (by rw [z1, q4, e]; omega)
      · rw [e] at full
        omega
    · have thin := hf
      rw [full_iff, decide_eq_true_eq] at thin
      first
        | refine wp_if_neg (by simp [hf]) ?_
        | (refine wpAny_bind ?_; refine wp_if_neg (by simp [hf]) ?_; refine wpAny_pure ?_)
      exact wpAny_pure (q true h1 L1 es1 (ep + 1) t1 sb ⟨⟨_, at1, ⟨hex.1, hex.2.1, hex.2.2⟩, rfl⟩, row1, q3, dis1, key1, ord1, by rw [len]; omega, by rw [len]; exact lt⟩ (fun z => absurd z hm) fun _ => pm)
  have flag : ∀ b : Bool, wpAny (model P w) A (do
      storeSet a es1 (if b = true then t1 else { t1 with plain := false })
      if (!false && (if b = true then t1 else { t1 with plain := false }).tooFull) = true then do
          setRelay a (SetTable.grown (es.size + 1))
          pure true
        else pure true) Q E s := fun b => by
    cases b with
    | true => exact behind t1 q3 q4 q5 q9
    | false => exact behind { t1 with plain := false } ⟨q3.ris, q3.dm, q3.sz, q3.mok, q3.bd, q3.reach⟩ q4 q5 q9
  by_cases pl : t1.plain = true
  · first
      | (refine wpAny_bind ?_; refine wp_if_pos pl ?_; exact m.hbv hx flag)
      | exact wp_if_pos pl (wpAny_bind (m.hbv hx flag))
  · first
      | (refine wpAny_bind ?_; refine wp_if_neg pl ?_; exact wpAny_pure (flag true))
      | exact wp_if_neg pl (wpAny_bind (wpAny_pure (flag true)))
end
section
variable {P : Program} {w : World} {K : Type} [DecidableEq K]
/-- what has come of the first i -/
structure From (bs : List (Addr × K)) (i : Nat) (L : List (Addr × K)) : Prop where
  sub : ∀ p ∈ L, p ∈ bs
  all : ∀ p ∈ bs.take i, p.2 ∈ L.map Prod.snd
  len : L.length ≤ i
theorem From.nil (bs : List (Addr × K)) : From bs 0 [] := ⟨(fun p h => by cases h), (fun p h => by simp at h), Nat.le_refl _⟩
theorem From.old {bs L : List (Addr × K)} {i : Nat} {x : Addr × K} (g : From bs i L) (h : bs[i]? = some x) (hm : x.2 ∈ L.map Prod.snd) : From bs (i + 1) L :=
  ⟨g.sub, fun p hp => by
    rw [List.take_add_one, h] at hp
    rcases List.mem_append.mp hp with z | z
    · exact g.all p z
    · rw [List.mem_singleton.mp z]; exact hm, Nat.le_succ_of_le g.len⟩
theorem From.new {bs L L' : List (Addr × K)} {i : Nat} {x : Addr × K} (g : From bs i L) (h : bs[i]? = some x) (pm : L'.Perm (x :: L)) : From bs (i + 1) L' :=
  ⟨fun p hp => by
    rcases List.mem_cons.mp (pm.mem_iff.mp hp) with rfl | z
    · exact List.mem_of_getElem? h
    · exact g.sub p z, fun p hp => by
    rw [(pm.map Prod.snd).mem_iff, List.map_cons]
    rw [List.take_add_one, h] at hp
    rcases List.mem_append.mp hp with z | z
    · exact List.mem_cons_of_mem _ (g.all p z)
    · rw [List.mem_singleton.mp z]; exact List.mem_cons_self, by rw [pm.length_eq, List.length_cons]; exact Nat.succ_le_succ g.len⟩
variable {m : SK P w K} {A : Around}
theorem key_keep {h h' : Heap} {k : K} {b : Addr} (x : m.kd.is h k b) (hk : ∀ c o, h.get? c = some o → h'.get? c = some o) : m.kd.is h' k b := m.stays x fun c o _ _ e _ => hk c o e
theorem SetM.keep {h h' : Heap} {a : Addr} {L : List (Addr × K)} {es : Array (Int × Value)} {ep : Nat} {t : SetTable} (R : SetM m h a L es ep t) (ha : ∀ o, h.get? a = some o → h'.get? a = some o) (hk : ∀ p ∈ L, m.kd.is h' p.2 p.1) : SetM m h' a L es ep t :=
  ⟨let ⟨o, ho, r⟩ := R.obj; ⟨o, ha o ho, r⟩, R.row, R.tab, R.dis, hk, R.ord, R.rm, R.lt⟩
theorem setM_fresh {h : Heap} {a : Addr} (ho : h.get? a = some { cls := .type "set", dict := none, data := .set #[] 0 (.fresh 0 0 (!w.params.followText "set-order")) }) : SetM m h a [] #[] 0 (.fresh 0 0 (!w.params.followText "set-order")) :=
  ⟨⟨_, ho, ⟨rfl, rfl, rfl⟩, rfl⟩, rfl, ⟨List.Pairwise.nil, rfl, rfl, .inl rfl, fun x hx => (by cases hx), fun i h j hi => (by simp [hshs] at hi)⟩, List.nodup_nil, fun p hp => (by cases hp), by
    show _ ∨ (!w.params.followText "set-order") = true
    cases w.params.followText "set-order"
    · exact .inr rfl
    · exact .inl rfl, by show 0 * 5 < 7 * 3; decide, by show 0 < 64; decide⟩
variable {R : Result → Shared → Prop} {I : Addr} {fp wr : List Addr} {G : Array GenState → Array GenState → Prop} {n : Nat} {Pv : Nat → Value → Prop} {St : Nat → Shared → Prop}
theorem set_loopM (W : WalksS P w A.in1 I fp wr G n Pv St) (S : Addr) (hSf : S ∉ fp) (bs : List (Addr × K)) (hn : n = bs.length) (hfew : bs.length < 64) (hval : ∀ i v, Pv i v → ∃ p, bs[i]? = some p ∧ v = .ref p.1)
    (h0 : Heap) (hk0 : ∀ p ∈ bs, m.kd.is h0 p.2 p.1) (hS0 : h0.get? S = none) (hw0 : ∀ b ∈ wr, h0.get? b = none) (hu : m.kd.room A.in1) :
    ∀ (k i : Nat) (s : Shared), n - i = k → i ≤ n → St i s → (∀ b o, h0.get? b = some o → s.heap.get? b = some o) → (∃ L es ep t, SetM m s.heap S L es ep t ∧ From bs i L) →
      (∀ s' L es ep t, Moved (S :: wr) G s s' → SetM m s'.heap S L es ep t → From bs n L → (∀ b o, h0.get? b = some o → s'.heap.get? b = some o) → R (.ok (.ret .none)) s') →
      codeAny (model P w) A (.builtin "set.update.loop" ⟨[.ref S, .ref I], []⟩) R s := by
  have hSw : S ∉ wr := fun h => hSf (W.sub _ h)
  have sub : ∀ b ∈ wr, b ∈ S :: wr := fun b hb => List.mem_cons_of_mem _ hb
  have stay : ∀ {s s' : Shared}, Moved wr G s s' → (∀ b o, h0.get? b = some o → s.heap.get? b = some o) → ∀ b o, h0.get? b = some o → s'.heap.get? b = some o := fun hm q b o e =>
    hm.heap b o (fun z => by rw [hw0 b z] at e; cases e) (q b o e)
  intro k
  induction k with
  | zero =>
    intro i s hk hi hst q0 ⟨L, es, ep, t, hS, g⟩ hR
    obtain rfl : i = n := by omega
    refine codeAny_builtin PyProof.Rows.F.entry_set_update_loop ?_
    rw [Around.under_plainId PyProof.Rows.F.plain_set_update_loop _]
    show wpAny _ A.in1 (pyNext (.ref I) >>= _) _ _ s
    refine wpAny_bind (W.done s _ _ hst fun s' hm => ?_)
    show wpAny _ A.in1 (ret Value.none) _ _ s'
    have q1 := stay hm q0
    exact wpAny_pure (hR s' L es ep t (hm.mono sub) (hS.keep (fun o e => hm.heap S o hSw e) fun p hp => key_keep (hk0 p (g.sub p hp)) q1) g q1)
  | succ k ih =>
    intro i s hk hi hst q0 ⟨L, es, ep, t, hS, g⟩ hR
    have hlt : i < n := by omega
    refine codeAny_builtin PyProof.Rows.F.entry_set_update_loop ?_
    rw [Around.under_plainId PyProof.Rows.F.plain_set_update_loop _]
    show wpAny _ A.in1 (pyNext (.ref I) >>= _) _ _ s
    refine wpAny_bind (W.item i s _ _ hlt hst fun v s' hP hst' hm => ?_)
    obtain ⟨p, hp, rfl⟩ := hval i v hP
    have q1 := stay hm q0
    have hS' : SetM m s'.heap S L es ep t := hS.keep (fun o e => hm.heap S o hSw e) fun r hr => key_keep (hk0 r (g.sub r hr)) q1
    have hx : m.kd.is s'.heap p.2 p.1 := key_keep (hk0 p (List.mem_of_getElem? hp)) q1
    show wpAny _ A.in1 (holding [Value.ref p.1] (setAdd S (.ref p.1)) >>= _) _ _ s'
    refine wpAny_bind (wpAny_holding ?_)
    unfold setAdd
    refine wpAny_holding ?_
    refine wpAny_bind (m.kd.pyHash hu hx ?_)
    have gl := g.len
    refine joinM (s := { s' with toks := s'.toks + m.kd.draws p.2 }) hS' hx hu (by omega) fun b h' L' es' ep' t' sb hS2 c1 c2 => ?_
    have g' : From bs (i + 1) L' := by
      rcases Classical.em (p.2 ∈ L.map Prod.snd) with c | c
      · rw [c1 c]; exact g.old hp c
      · exact g.new hp (c2 c)
    have q2 : ∀ b o, h0.get? b = some o → h'.get? b = some o := fun b o e => (sb.2 b fun z => by rw [z, hS0] at e; cases e).trans (q1 b o e)
    refine wpAny_pure ⟨plainId_quiet PyProof.Rows.F.plain_set_update_loop _, ih (i + 1) _ (by omega) hlt (W.frame _ s' _ _ hst' (Nat.le_add_right _ _) fun b hb o e => ?_) q2 ⟨L', es', ep', t', hS2, g'⟩ fun s'' L2 es2 ep2 t2 hm'' hS'' g'' q3 => ?_⟩
    · rw [sb.2 b (fun h : b = S => hSf (by rw [← h]; exact hb))]; exact e
    · refine hR s'' L2 es2 ep2 t2 (Moved.trans W.gtrans ((hm.mono sub).then_heap (Nat.le_add_right _ _) fun b o hb e => ?_) hm'') hS'' g'' q3
      rw [sb.2 b (fun h : b = S => hb (by rw [h]; exact List.mem_cons_self))]; exact e
variable {E : Value → Shared → Prop} {s : Shared}
set_option maxHeartbeats 8000000 in
/-- set(list of objects told by keys) -/
theorem call_setM {l : Addr} {items : Array Value} (bs : List (Addr × K)) {Q : Value → Shared → Prop} (hh : A.handled = none) (hl : s.heap.IsList l items) (hit : items.toList = bs.map fun p => Value.ref p.1) (hk : ∀ p ∈ bs, m.kd.is s.heap p.2 p.1) (hb : bs.length < 64) (hu : m.kd.room A.in1.in1.in1)
    (h : ∀ (h' : Heap) (tk : Nat) L es ep t, SetM m h' s.heap.objs.size L es ep t → From bs bs.length L → (∀ b o, s.heap.get? b = some o → h'.get? b = some o) → Q (.ref s.heap.objs.size) { s with heap := h', toks := tk }) :
    wpAny (model P w) A (call (.type "set") [.ref l]) Q E s := by
  have hisz : items.size = bs.length := by
    have q := congrArg List.length hit
    rw [Array.length_toList, List.length_map] at q
    exact q
  obtain ⟨c, tl, hmro⟩ := PySem.F.called_set.mro
  have hmade := PySem.F.called_set.made
  have hsub := PySem.F.called_set.sub
  refine wpAny_call (codeAny_of_tree ?_)
  show wpAny _ _ (callAny (.type "set") _) _ _ _
  refine wpAny_pure ⟨Code.quiet_builtin _ (by decide +kernel), codeAny_builtin PySem.F.entry_type_call ?_⟩
  rw [Around.under_plain (weight_type_call_type "set" [.ref l] []) rfl]
  have h1 := PySem.F.called_set.notType
  have h2 := PySem.F.called_set.canCreate
  have hct := PySem.F.typeCall_set_1 (.ref l)
  repeat (any_goals (first | assumption | wp_step))
  refine codeAny_mono (L3.code_set_led1 (.ref l) (E := E) (Q₁ := fun obj s₁ => obj = .ref s.heap.objs.size ∧ s₁ = { s with heap := s.heap.push { cls := .type "set", dict := none, data := .set #[] 0 (.fresh 0 0 (!w.params.followText "set-order")) } }) ⟨rfl, rfl⟩) fun r s₁ hr => ?_
  cases r with
  | error e => exact hr
  | ok fl =>
    cases fl with
    | ret obj =>
      obtain ⟨rfl, rfl⟩ := hr
      have hS : (s.heap.push { cls := .type "set", dict := none, data := .set #[] 0 (.fresh 0 0 (!w.params.followText "set-order")) }).get? s.heap.objs.size = some { cls := .type "set", dict := none, data := .set #[] 0 (.fresh 0 0 (!w.params.followText "set-order")) } := Heap.get?_push_size _ rfl
      have hT : Shared.TypeIs { s with heap := s.heap.push { cls := .type "set", dict := none, data := .set #[] 0 (.fresh 0 0 (!w.params.followText "set-order")) } } (.ref s.heap.objs.size) "set" := ⟨_, hS, rfl⟩
      have hli := PySem.F.called_set.init.lookup
      have hbi := PySem.F.called_set.init.bind (.ref s.heap.objs.size)
      repeat (any_goals (first | assumption | wp_step))
      refine codeAny_mono (codeAny_call_builtin (R := wants (fun r s₂ => r = .none ∧ ∃ h' tk L es ep t, s₂ = { s with heap := h', toks := tk } ∧ SetM m h' s.heap.objs.size L es ep t ∧ From bs bs.length L ∧
          (∀ b o, s.heap.get? b = some o → h'.get? b = some o)) E) PySem.F.called_set.init.plain PySem.F.entry_set_init (PySem.check_set_init_1 hT ?_)) fun r₂ s₂ hr₂ => ?_
      · obtain ⟨ol, hol, hcl, nl, hdl⟩ := hl
        obtain ⟨ocls, odict, odata, oslots⟩ := ol
        simp only at hcl hdl
        subst hcl; subst hdl
        have hol' : (s.heap.push { cls := .type "set", dict := none, data := .set #[] 0 (.fresh 0 0 (!w.params.followText "set-order")) }).get? l = some { cls := .type "list", dict := odict, data := .seq items nl, slots := oslots } := Heap.get?_push_of_some _ hol
        have hsls := PySem.F.sub_list_set
        have hslf := PySem.F.sub_list_frozenset
        have hne : (Value.type "list" == Value.type "dict") = false := by decide
        have hl1 : (s.heap.push { cls := .type "set", dict := none, data := .set #[] 0 (.fresh 0 0 (!w.params.followText "set-order")) }).IsList l items := ⟨_, hol', rfl, nl, rfl⟩
        unfold Builtin.«set.__init__» noKeywords Builtin.Frozenset.updateFrom
        generalize hPI : pyIter = PI
        wp_walk
        subst hPI
        refine wpAny_pyIter_list hl1 ?_
        refine wpAny_bind (wpAny_runValue ?_)
        have hlS : l < s.heap.objs.size := Heap.lt_size hol
        have hh3 : A.in1.in1.in1.handled = none := by simp [hh]
        have hneI : l ≠ (s.heap.push { cls := .type "set", dict := none, data := .set #[] 0 (.fresh 0 0 (!w.params.followText "set-order")) }).objs.size := by
          rw [Heap.size_push]; exact Nat.ne_of_lt (Nat.lt_succ_of_lt hlS)
        have hSf : s.heap.objs.size ∉ [(s.heap.push { cls := .type "set", dict := none, data := .set #[] 0 (.fresh 0 0 (!w.params.followText "set-order")) }).objs.size, l] := by
          rw [Heap.size_push]; simp only [List.mem_cons, List.mem_singleton, List.not_mem_nil, or_false, not_or]
          exact ⟨Nat.ne_of_lt (Nat.lt_succ_self _), Nat.ne_of_gt hlS⟩
        have hval : ∀ (i : Nat) (v : Value), items[i]? = some v → ∃ p, bs[i]? = some p ∧ v = .ref p.1 := fun i v hv => by
          rw [← Array.getElem?_toList, hit, List.getElem?_map] at hv
          obtain ⟨p, hp, e⟩ := Option.map_eq_some_iff.mp hv
          exact ⟨p, hp, e.symm⟩
        have gone : ∀ b, s.heap.objs.size ≤ b → s.heap.get? b = none := fun b hb => Heap.get?_none_of_le hb
        refine set_loopM ((Walks.list hh3 _ l hneI items).toS) s.heap.objs.size hSf bs hisz hb hval s.heap hk (gone _ (Nat.le_refl _)) (fun b hb => gone b (by rw [List.mem_singleton.mp hb, Heap.size_push]; exact Nat.le_succ _)) hu (items.size - 0) 0 _ (by omega) (Nat.zero_le _)
          ⟨⟨_, Heap.get?_push_size _ rfl, rfl, rfl⟩, (hl1.push _)⟩ (fun b o e => Heap.get?_push_of_some _ (Heap.get?_push_of_some _ e)) ?hS0 ?hR
        case hS0 => exact ⟨[], #[], 0, _, setM_fresh (Heap.get?_push_of_some _ hS), From.nil bs⟩
        case hR =>
          intro s' L es ep t hm hS' g' hkp
          obtain ⟨h', g2, d', tk', os'⟩ := s'
          have eg : g2 = s.gens := hm.gens
          have ed : d' = s.drawn := hm.drawn
          have eo : os' = s.os := hm.os
          subst eg; subst ed; subst eo
          show wpAny _ _ _ _ _ _
          refine wpAny_pure ?_
          show wpAny _ _ (ret Value.none) _ _ _
          rw [hisz] at g'
          exact wpAny_pure ⟨rfl, h', tk', L, es, ep, t, rfl, hS', g', hkp⟩
      · cases r₂ with
        | error e => exact hr₂
        | ok fl₂ =>
          cases fl₂ with
          | ret r =>
            obtain ⟨rfl, h', tk, L, es, ep, t, rfl, hS', g', hk'⟩ := hr₂
            repeat (any_goals (first | assumption | wp_step))
            exact h _ _ _ _ _ _ hS' g' hk'
          | _ => exact hr₂.elim
    | _ => exact hr.elim
end
end L3
namespace L3
open PySem PySem.Spec PyProof.Rows PySem.W PySem.Calls PySem.SeqAt
section
variable {prog : Program} {w : World} {A : Around} {E : Value → Shared → Prop} {s : Shared}
theorem each_right {α β : Type} {R : α → β → Prop} : ∀ {as : List α} {bs : List β}, EachIs R as bs → ∀ b ∈ bs, ∃ a ∈ as, R a b
  | _, _, .nil, b, h => by cases h
  | _, _, .cons h t, b, hb => by
    rcases List.mem_cons.mp hb with rfl | hb
    · exact ⟨_, List.mem_cons_self, h⟩
    · obtain ⟨a, ha, r⟩ := each_right t b hb
      exact ⟨a, List.mem_cons_of_mem _ ha, r⟩
/-- tuple's own __lt__, asked by the sort -/
theorem tup_lt_call {Q : Value → Shared → Prop} {l b : Addr} {u v : Array Value} {e r : Nat → Bool} (hl : s.heap.IsTuple l u) (hb : s.heap.IsTuple b v)
    (he : ∀ j (h1 : j < u.size) (h2 : j < v.size), EqAt A.in1 s u[j] v[j] (e j)) (hr : ∀ j (h1 : j < u.size) (h2 : j < v.size), e j = false → RcLt A.in1 s u[j] v[j] (r j))
    (q : Q (.bool (firstLt e r (decide (u.size < v.size)) (List.range (min u.size v.size)))) s) : wpAny (model prog w) A (call (.builtin "tuple.__lt__") [.ref l, .ref b]) Q E s := by
  obtain ⟨⟨k1, d1, a1, t1⟩, ho, h1, n, h2⟩ := hl
  obtain ⟨⟨k2, d2, a2, t2⟩, ho', h1', n', h2'⟩ := hb
  dsimp only at h1 h2 h1' h2'
  subst h1 h2 h1' h2'
  exact call_meets F.slot_tuple_lt ⟨_, ho, rfl⟩ F.entry_tuple_lt (F.args_tuple_lt_2 _ _) (tuple_ltAt l b u v n n' d1 d2 t1 t2 e r) ⟨ho, ho', he, hr, q⟩
/-- one tuple against another, the sort knowing that all are tuples or not -/
theorem tup_one {f : Bool} {xs ys : List PyData} {a b : Value} {as bs : List Addr} {Q : Bool → Shared → Prop} (ra : Reads s.heap a (.tuple xs) as) (rb : Reads s.heap b (.tuple ys) bs) (h : alikeAll xs ys = true)
    (hu : A.units + min (PyData.tuple xs).depth (PyData.tuple ys).depth < cLine) (hq : Q (dataLt (.tuple xs) (.tuple ys)) s) : wpAny (model prog w) A (oneLt' f a b) Q E s := by
  have hal : alike (.tuple xs) (.tuple ys) = true := by simpa [alike] using h
  cases f with
  | false => exact oneLt_alike (fun z => by cases z) ra rb hal (fun z => by cases z) hu hq
  | true =>
    cases ra with
    | @tuple l o vs n _ as₁ g1 g2 g3 g4 =>
      cases rb with
      | @tuple l' o' vs' n' _ bs₁ k1 k2 k3 k4 =>
        have z1 : vs.size = xs.length := by simpa using ReadsAll.length _ _ _ g4
        have z2 : vs'.size = ys.length := by simpa using ReadsAll.length _ _ _ k4
        rw [dataLt_tuple, ← firstLt_toks xs ys h, ← z1, ← z2] at hq
        rw [oneLt'_eq]
        simp only [if_true]
        refine wpAny_bind (wpAny_cRoomFor (room_here hu) ?_)
        refine wpAny_bind (wpAny_callSpecialIfBound?_slot (T := "tuple") ⟨_, g1, g2⟩ F.slot_tuple_lt (tup_lt_call (e := pairEq xs ys) (r := fun j => dataLt (xs.getD j .none) (ys.getD j .none)) ⟨_, g1, g2, _, g3⟩ ⟨_, k1, k2, _, k3⟩ (fun j j1 j2 => ?_) (fun j j1 j2 hj => ?_) ?_))
        · rw [← Array.getElem_toList, ← Array.getElem_toList]
          exact eqAt_alikeAll xs ys A.in1 s vs.toList vs'.toList _ _ g4 k4 h (room_in hu) j (by simpa using j1) (by simpa using j2)
        · rw [← Array.getElem_toList, ← Array.getElem_toList]
          exact rcLt_alikeAll xs ys A.in1 s vs.toList vs'.toList _ _ g4 k4 h (room_in hu) j (by simpa using j1) (by simpa using j2) hj
        · exact wpAny_truthy_bool hq
/-- a tuple's first item -/
def headOf (h : Heap) : Value → Option Value
  | .ref a => match h.get? a with
    | some o => match o.data with
      | .seq xs _ => xs[0]?
      | _ => none
    | none => none
  | _ => none
theorem heads {M : Model} : ∀ (vs : List Value) {Q : List (Option Value) → Shared → Prop}, (∀ v ∈ vs, ∃ a xs, v = .ref a ∧ s.heap.IsTuple a xs) → Q (vs.map (headOf s.heap)) s → wpAny M A (vs.mapM firstOfTuple') Q E s
  | [], _, _, q => by rw [List.mapM_nil]; exact wpAny_pure q
  | v :: vs, Q, h, q => by
    obtain ⟨a, xs, rfl, o, ho, hc, n, hd⟩ := h v List.mem_cons_self
    rw [List.mapM_cons]
    refine wpAny_bind ?_
    rw [kas_first_eq]
    refine wpAny_bind (wpAny_typeOf ⟨o, ho, hc⟩ ?_)
    rw [if_neg (by simp)]
    refine wpAny_bind (listItems_at ho hd (wpAny_pure ?_))
    refine wpAny_bind (heads vs (fun v hv => h v (List.mem_cons_of_mem _ hv)) (wpAny_pure ?_))
    have e : headOf s.heap (.ref a) = xs[0]? := by unfold headOf; dsimp only; rw [ho]; dsimp only; rw [hd]
    rw [List.map_cons, e] at q
    exact q
theorem SortsAt.tups {vs : List Value} {ds : List PyData} (e : EachIs (fun v d => ∃ as, Reads s.heap v d as) vs ds) (hal : AllAlike ds) (ht : ∀ d ∈ ds, ∃ xs, d = .tuple xs) (hu : ∀ d ∈ ds, A.units + d.depth < cLine) :
    SortsAt prog w A s (dataKind s.heap ds) vs := by
  by_cases hne : ∀ d ∈ ds, ∃ x r, d = .tuple (x :: r)
  · exact SortsAt.data e hal (.inl hne) hu
  · have room : ∀ {d d' : PyData}, d ∈ ds → A.units + min d.depth d'.depth < cLine := fun {d d'} hd => Nat.lt_of_le_of_lt (Nat.add_le_add_left (Nat.min_le_left _ _) _) (hu d hd)
    have ltA : ∀ (f : Bool) (E : Value → Shared → Prop) (x y : Value) (a b : (dataKind s.heap ds).α) {Q : Bool → Shared → Prop}, (dataKind s.heap ds).keyOf x = some a → (dataKind s.heap ds).keyOf y = some b → Q ((dataKind s.heap ds).blt a b) s → wpAny (model prog w) A (oneLt' f x y) Q E s := fun f E x y a b Q ha hb hq => by
      obtain ⟨d, as, hd, ra, rfl⟩ := dataKind_inv ha
      obtain ⟨d', as', hd', rb, rfl⟩ := dataKind_inv hb
      have hdd := hal d hd d' hd'
      have hr := room (d' := d') hd
      obtain ⟨xs, rfl⟩ := ht d hd
      obtain ⟨ys, rfl⟩ := ht d' hd'
      exact tup_one ra rb (by simpa [alike] using hdd) hr hq
    have isT : ∀ v ∈ vs, ∃ a xs, v = .ref a ∧ s.heap.IsTuple a xs := fun v hv => by
      obtain ⟨d, hd, as, r⟩ := e.left v hv
      obtain ⟨xs, rfl⟩ := ht d hd
      cases r with
      | @tuple l o us n _ _ g1 g2 g3 g4 => exact ⟨l, us, rfl, o, g1, g2, n, g3⟩
    have some_none : ((vs.map (headOf s.heap)).all (·.isSome)) = false := by
      obtain ⟨d, hd⟩ := Classical.not_forall.mp hne
      obtain ⟨hd, hx⟩ := Classical.not_imp.mp hd
      obtain ⟨xs, rfl⟩ := ht d hd
      cases xs with
      | cons x r => exact absurd ⟨x, r, rfl⟩ hx
      | nil =>
        obtain ⟨v, hv, as, r⟩ := each_right e _ hd
        rw [List.all_eq_false]
        refine ⟨headOf s.heap v, List.mem_map.mpr ⟨v, hv, rfl⟩, ?_⟩
        cases r with
        | @tuple l o us n _ _ g1 g2 g3 g4 =>
          have z : us.size = 0 := by simpa using ReadsAll.length _ _ _ g4
          have e0 : headOf s.heap (.ref l) = us[0]? := by unfold headOf; dsimp only; rw [g1]; dsimp only; rw [g3]
          rw [e0, Array.getElem?_eq_none (by omega)]
          simp
    refine ⟨fun v hv => ?_, ?_⟩
    · obtain ⟨d, hd, as, r⟩ := e.left v hv
      exact ⟨_, dataKind_some hal hd r⟩
    · cases hf : ((vs.map (headOf s.heap))[0]?.bind id).isSome with
      | true =>
        refine ⟨general', fun E x y a b Q ha hb hq => ltA false E x y a b ha hb hq, fun h2 E Q hq => ?_⟩
        rw [keyKind'_eq, List.mapM_toArray, map_eq_pure_bind]
        refine wpAny_bind (wpAny_bind (heads vs isT (wpAny_pure ?_)))
        rw [if_neg (by simpa using some_none), if_pos (by simpa using hf)]
        exact wpAny_pure hq
      | false =>
        refine ⟨oneType', fun E x y a b Q ha hb hq => by rw [keyLt'_oneType]; exact ltA true E x y a b ha hb hq, fun h2 E Q hq => ?_⟩
        rw [keyKind'_eq, List.mapM_toArray, map_eq_pure_bind]
        refine wpAny_bind (wpAny_bind (heads vs isT (wpAny_pure ?_)))
        rw [if_neg (by simpa using some_none), if_neg (by simpa using hf)]
        rw [oneTypeOnly'_eq, List.mapM_toArray, map_eq_pure_bind]
        refine wpAny_bind (wpAny_bind (wpAny_bind (kas_mapM (r := Value.type "tuple") _ (fun v hv Q' hq' => ?_) (wpAny_pure ?_))))
        · obtain ⟨a, xs, rfl, o, ho, hc, n, hd⟩ := isT v hv
          exact wpAny_typeOf ⟨o, ho, hc⟩ hq'
        · cases vs with
          | nil => exact absurd h2 (by simp)
          | cons v rest =>
            have h0 : ((v :: rest).map fun _ => Value.type "tuple").toArray[0]? = some (Value.type "tuple") := by simp
            have h3 : ((v :: rest).map fun _ => Value.type "tuple").toArray.all (fun x => x == Value.type "tuple") = true := by simp
            rw [h0]
            simp only [h3, if_true]
            exact wpAny_pure (wpAny_pure hq)
/-- sorted(x), x anything whose items are tuples of one shape -/
theorem sorted_tups_of {β : Type} {x : Value} {Pv : List Value → List β → Prop} {R : Value → β → Prop} {enc : β → PyData} {Q : Value → Shared → Prop}
    (hcol : ∀ (E' : Value → Shared → Prop) (Q' : List Value → Shared → Prop), (∀ s1 vs bs, (∀ b o, s.heap.get? b = some o → s1.heap.get? b = some o) → s1.gens = s.gens → s1.os = s.os → s.heap.objs.size ≤ s1.heap.objs.size → Pv vs bs → Q' vs s1) → wpAny (model prog w) A.in1 (collect x) Q' E' s)
    (hP : ∀ vs bs, Pv vs bs → EachIs R vs bs ∧ EachIs (fun v b => ∃ as, Reads s.heap v (enc b) as) vs bs ∧ AllAlike (bs.map enc) ∧ (∀ d ∈ bs.map enc, ∃ xs, d = .tuple xs) ∧ (∀ d ∈ bs.map enc, A.units + 2 + d.depth < cLine) ∧ vs.length ≤ sizeLine)
    (hQ : ∀ s' p (out : Array Value) c vs bs, (∀ b o, s.heap.get? b = some o → s'.heap.get? b = some o) → s'.gens = s.gens → s'.os = s.os → s.heap.objs.size ≤ p → s'.heap.get? p = some (seqObj "list" out c) → Pv vs bs → EachIs R out.toList (bs.mergeSort (dataLe false enc)) → Q (.ref p) s') :
    wpAny (model prog w) A (call (.builtin "sorted") [x]) Q E s := by
  refine Calls.call_function_entry kind_sorted plain_sorted entry_sorted (args_sorted1 _) ?_
  unfold Builtin.«sorted»
  refine wpAny_bind (m := checkCount "sorted" 1 1 _) (wpAny_pure ?_)
  refine wpAny_bind (hcol _ _ fun s1 vs bs k1 g1 o1 hz hp => ?_)
  obtain ⟨e, er, hal, ht, hu, hL⟩ := hP vs bs hp
  refine wpAny_bind (wpAny_newList ?_ hL)
  have hoL : (s1.heap.push (seqObj "list" vs.toArray 0)).get? s1.heap.objs.size = some (seqObj "list" vs.toArray 0) := Heap.get?_push_size _ rfl
  have kk : ∀ b o, s.heap.get? b = some o → (s1.heap.push (seqObj "list" vs.toArray 0)).get? b = some o := fun b o h => Heap.get?_push_of_some _ (k1 b o h)
  have lt : ∀ b o, s.heap.get? b = some o → b ≠ s1.heap.objs.size := fun b o h => Nat.ne_of_lt (Nat.lt_of_lt_of_le (Heap.lt_size h) hz)
  have er' : EachIs (fun v b => ∃ as, Reads (sortingHeap (s1.heap.push (seqObj "list" vs.toArray 0)) s1.heap.objs.size vs) v (enc b) as) vs bs := er.mono fun _ _ ⟨as, r⟩ => ⟨as, PyProof.Rows.Reads.keeps (fun b o h => sortingHeap_old (lt b o h) (kk b o h)) r⟩
  refine wpAny_bind (wpAny_holding (wpAny_call_entry slot_list_sort ⟨_, hoL, rfl⟩ entry_list_sort (list_sort_vals (s := { s1 with heap := s1.heap.push (seqObj "list" vs.toArray 0) }) hoL (SortsAt.tups (each_map (R := fun v d => ∃ as, Reads (sortingHeap (s1.heap.push (seqObj "list" vs.toArray 0)) s1.heap.objs.size vs) v d as) enc er') hal ht hu) hL ⟨_, rfl, ?_⟩) (args_list_sort _)))
  obtain ⟨c, hc⟩ := sortedHeap_at (vs := vs) (out := (sortVals (dataKind (sortingHeap (s1.heap.push (seqObj "list" vs.toArray 0)) s1.heap.objs.size vs) (bs.map enc)) false vs vs).toArray) hoL
  refine wpAny_pure ⟨_, rfl, hQ _ s1.heap.objs.size _ c vs bs (fun b o h => ?_) g1 o1 hz hc hp ?_⟩
  · have := kk b o h
    show (sortedHeap _ _ _ _).get? b = some o
    rw [sortedHeap_old (lt b o h) (Heap.lt_size this)]
    exact this
  · exact sortVals_data false e er' hal
end
end L3
namespace L3
open PySem PySem.Spec PyProof.Rows L2
open PySem.W (EachIs AllAlike dataLe alike dataLt)
section
variable {P : Program} {w : World} {A : Around} {E : Value → Shared → Prop} {s : Shared}
theorem strs_are {k : List Str} {vs : List Value} (h : ItemsAre (PySem.strKind P w) k vs) : ∀ v ∈ vs, ∃ x t, v = Value.str x t := by
  induction h with
  | nil => intro v hv; cases hv
  | @cons x u ks us h1 _ ih =>
    intro v hv
    rcases List.mem_cons.mp hv with rfl | hv
    · obtain ⟨t, e⟩ := Value.isStrOf_shape h1
      exact ⟨x, t, e⟩
    · exact ih v hv
theorem str_noclass (n : Nat) (x : Str) (t : Tok) : ofAClassStatement n (.str x t) = pure false := by cases n <;> rfl
theorem str_byvalue (n : Nat) (x : Str) (t : Tok) : hashByValue n (.str x t) = pure false := by cases n <;> rfl
theorem tup_noclass {k : List Str} {b : Addr} {Q : Bool → Shared → Prop} (hk : IsTupleKey (PySem.strKind P w) s.heap k b) (q : Q false s) : wpAny (model P w) A (ofAClassStatement 8 (.ref b)) Q E s := by
  have ty := hk.typeIs
  obtain ⟨o, its, n, ho, _, hd, hi⟩ := hk
  unfold ofAClassStatement
  refine wpAny_bind (wpAny_typeOf ty ?_)
  dsimp only
  simp only [show (("tuple" : String) == "tuple") = true by decide, if_true, Bool.not_true, Bool.false_eq_true, if_false]
  try refine wpAny_bind (wpAny_pure ?_)
  try simp only [Bool.not_true, Bool.false_eq_true, if_false]
  show wpAny _ _ (seqItems? (.ref b) >>= _) _ _ s
  refine wpAny_bind (wpAny_seqItems ho hd ?_)
  dsimp only
  refine wpAny_bind ?_
  show wpAny _ _ (forIn its _ _) _ _ s
  rw [← Array.forIn_toList]
  refine wpAny_forIn_list _ (fun l r s' => r.1 = none ∧ s' = s ∧ ∀ v ∈ l, ∃ x t, v = Value.str x t) _ (fun v l r s' i => ?_) (fun r s' i => ?_) _ _ ⟨rfl, rfl, strs_are hi⟩
  · obtain ⟨_, rfl, al⟩ := i
    obtain ⟨x, t, rfl⟩ := al v List.mem_cons_self
    rw [str_noclass]
    refine wpAny_bind (wpAny_pure ?_)
    simp only [Bool.false_eq_true, if_false]
    exact wpAny_pure ⟨rfl, rfl, fun u hu => al u (List.mem_cons_of_mem _ hu)⟩
  · obtain ⟨r1, r2⟩ := r
    obtain ⟨e, rfl, _⟩ := i
    dsimp only at e
    subst e
    exact wpAny_pure q
theorem tup_byvalue {k : List Str} {b : Addr} {Q : Bool → Shared → Prop} (hk : IsTupleKey (PySem.strKind P w) s.heap k b) (q : ∀ c, Q c s) : wpAny (model P w) A (hashByValue 8 (.ref b)) Q E s := by
  have ty := hk.typeIs
  obtain ⟨o, its, n, ho, _, hd, hi⟩ := hk
  unfold hashByValue
  refine wpAny_bind (wpAny_specialOf ty PySem.F.slot_tuple_hash.lookup ?_)
  show wpAny _ _ (seqItems? (.ref b) >>= _) _ _ s
  refine wpAny_bind (wpAny_seqItems ho hd ?_)
  refine wpAny_bind ?_
  show wpAny _ _ (forIn its _ _) _ _ s
  rw [← Array.forIn_toList]
  refine wpAny_forIn_list _ (fun l r s' => r.1 = none ∧ s' = s ∧ ∀ v ∈ l, ∃ x t, v = Value.str x t) _ (fun v l r s' i => ?_) (fun r s' i => ?_) _ _ ⟨rfl, rfl, strs_are hi⟩
  · obtain ⟨_, rfl, al⟩ := i
    obtain ⟨x, t, rfl⟩ := al v List.mem_cons_self
    rw [str_byvalue]
    refine wpAny_bind (wpAny_pure ?_)
    simp only [Bool.not_false, if_true]
    exact wpAny_pure (wpAny_pure (q false))
  · obtain ⟨r1, r2⟩ := r
    obtain ⟨e, rfl, _⟩ := i
    dsimp only at e
    subst e
    exact wpAny_pure (q true)
end
def txK (P : Program) (w : World) : SK P w (List Str) where
  kd := tupleKind (PySem.strKind P w)
  ofc := tup_noclass
  hbv := tup_byvalue
  stays := fun x k => tupleKind_stays.stays k x
/-- a tuple of texts as data -/
def dS (k : List Str) : PyData := .tuple (k.map .str)
theorem strs_alike : ∀ k l : List Str, PySem.W.alikeAll (k.map .str) (l.map .str) = true
  | [], [] => rfl
  | [], _ :: _ => rfl
  | _ :: _, [] => rfl
  | x :: k, y :: l => by
    rw [List.map_cons, List.map_cons, PySem.W.alikeAll, strs_alike k l]
    rfl
theorem dS_alike (k l : List Str) : alike (dS k) (dS l) = true := by
  unfold dS
  simpa [alike] using strs_alike k l
theorem strs_depth : ∀ k : List Str, PyData.depthAll (k.map .str) = 0
  | [] => rfl
  | x :: k => by
    rw [List.map_cons, PyData.depthAll, strs_depth k]
    rfl
theorem dS_depth (k : List Str) : (dS k).depth ≤ 1 := by
  unfold dS
  rw [PyData.depth, strs_depth]
  omega
section
variable {X : Cx} {pins : List (Addr × Obj)} {σ : L2.St} {H : Hp} {s : Shared}
theorem items_strs : ∀ {xs : List V} {us : List Value} {k : List Str}, Vals xs us → DpAll X.K H xs (k.map .str) → ItemsAre (PySem.strKind X.prog X.w) k us
  | [], [], [], _, _ => .nil
  | x :: xs, u :: us, y :: k, .cons r rs, .cons h hs => by
    cases h
    obtain ⟨t, rfl⟩ := r
    exact .cons (by simp [PySem.strKind, Value.isStrOf]) (items_strs rs hs)
  | [], [], y :: k, _, h => by cases h
  | x :: xs, u :: us, [], _, h => by cases h
theorem isS (I : L2.Inv X pins σ H s) {b : Addr} {k : List Str} (h : Dp X.K H (.ref b) (dS k)) : IsTupleKey (PySem.strKind X.prog X.w) s.heap k b := by
  obtain ⟨a, xs, e, hs, ha⟩ := dp_tuple h
  cases e
  obtain ⟨its, rv, ⟨o, ho, hc, n, hd⟩, _⟩ := I.tuple hs
  exact ⟨o, its.toArray, n, ho, hc, hd, by simpa using items_strs rv ha⟩
end
def SetM0 (P : Program) (w : World) (h : Heap) (a : Addr) (L : List (Addr × List Str)) : Prop :=
  ∃ (es : Array (Int × Value)) (ep : Nat) (t : SetTable), (∃ o, h.get? a = some o ∧ o.ExactSet ∧ o.data = .set es ep t) ∧ es.toList = mems (txK P w) L ∧ TabOk t (hshs (txK P w) L) ∧ (L.map Prod.snd).Nodup ∧
    (w.params.followText "set-order" = true ∨ t.led = true) ∧ L.length * 5 < t.mask * 3 ∧ L.length < 64
def SetS (P : Program) (w : World) (a : Addr) (L : List (Addr × List Str)) : HO := .ext fun h => SetM0 P w h a L
theorem SetM.bare {P : Program} {w : World} {h : Heap} {a : Addr} {L : List (Addr × List Str)} {es : Array (Int × Value)} {ep : Nat} {t : SetTable} (R : SetM (txK P w) h a L es ep t) : SetM0 P w h a L :=
  ⟨es, ep, t, R.obj, R.row, R.tab, R.dis, R.ord, R.rm, R.lt⟩
theorem setS_ok {P : Program} {w : World} {H : Hp} {h : Heap} {a : Addr} {L : List (Addr × List Str)} (R : SetM0 P w h a L) : ObjOk P w H h a (SetS P w a L) := by
  obtain ⟨es, ep, t, ⟨o, ho, r⟩, q⟩ := id R
  refine ⟨R, ⟨o, ho⟩, fun h1 h2 p k => ?_⟩
  obtain ⟨es', ep', t', ⟨o', ho', r'⟩, q'⟩ := p
  exact ⟨es', ep', t', ⟨o', k o' ho', r'⟩, q'⟩
section
variable {X : Cx}
theorem refs_vals : ∀ {bs : List (Addr × List Str)} {us : List Value}, Vals (bs.map fun p => V.ref p.1) us → us = bs.map fun p => Value.ref p.1
  | [], _, .nil => rfl
  | p :: bs, _, .cons r t => by
    cases r
    rw [refs_vals t]
    rfl
/-- set(list of tuples of texts) -/
theorem cr_setTT (hc : X.calm = true) (hu : X.A.units + 64 < cLine) : CallR X (.type "set") (fun xs H Q => ∃ (l : Addr) (bs : List (Addr × List Str)), xs = [.ref l] ∧ SqL X.K H l (bs.map fun p => V.ref p.1) ∧ (∀ p ∈ bs, Dp X.K H (.ref p.1) (dS p.2)) ∧ bs.length < 64 ∧
    ∀ a L, H a = none → (∀ p ∈ L, p ∈ bs) → (∀ p ∈ bs, p.2 ∈ L.map Prod.snd) → (L.map Prod.snd).Nodup → L.length ≤ bs.length → Q (.ref a) (upd H a (SetS X.prog X.w a L))) := by
  intro pins s σ H xs us Q I r h
  obtain ⟨l, bs, rfl, hl, hd, hf, q⟩ := h
  rw [Vals.ref1 r]
  obtain ⟨its, rv, pl, _⟩ := I.list hl
  refine call_setM (m := txK X.prog X.w) bs (I.ok.hd hc) pl.isList (by simpa using refs_vals rv) (fun p hp => isS I (hd p hp)) hf (show _ < cLine by simp; omega) fun h' tk L es ep t R g k => ?_
  exact ⟨.ref s.heap.objs.size, _, I.laid (t' := tk) k (Nat.le_refl _) (setS_ok R.bare), rfl, q _ L (I.hok.fresh (Nat.le_refl _)) g.sub (fun p hp => g.all p (by rw [List.take_length]; exact hp)) R.dis g.len⟩
theorem perm_map {α β : Type} {f : α → β} {l y : List β} (h : l.Perm y) : ∀ {m : List α}, y = m.map f → ∃ k : List α, k.Perm m ∧ l = k.map f := by
  induction h with
  | nil =>
    intro m e
    cases m with
    | nil => exact ⟨[], .refl _, rfl⟩
    | cons x m => cases e
  | @cons b l1 l2 h ih =>
    intro m e
    cases m with
    | nil => cases e
    | cons x m =>
      cases e
      obtain ⟨k, k1, rfl⟩ := ih rfl
      exact ⟨x :: k, k1.cons x, rfl⟩
  | swap a b l =>
    intro m e
    match m, e with
    | x :: y :: m, e =>
      cases e
      exact ⟨y :: x :: m, .swap _ _ _, rfl⟩
  | trans h1 h2 ih1 ih2 =>
    intro m e
    obtain ⟨k, k1, rfl⟩ := ih2 e
    obtain ⟨k', k2, rfl⟩ := ih1 rfl
    exact ⟨k', k2.trans k1, rfl⟩
theorem each_refs {H : Hp} {pins : List (Addr × Obj)} {σ : L2.St} {s : Shared} (I : L2.Inv X pins σ H s) : ∀ {bs : List (Addr × List Str)}, (∀ p ∈ bs, Dp X.K H (.ref p.1) (dS p.2)) →
    EachIs (fun u p => u = Value.ref p.1) (bs.map fun p => Value.ref p.1) bs ∧ EachIs (fun v b => ∃ as, Reads s.heap v (dS b.2) as) (bs.map fun p => Value.ref p.1) bs
  | [], _ => ⟨.nil, .nil⟩
  | p :: bs, h => by
    obtain ⟨e1, e2⟩ := each_refs I (bs := bs) fun q hq => h q (List.mem_cons_of_mem _ hq)
    exact ⟨.cons rfl e1, .cons (Dp.reads I _ _ _ (h p List.mem_cons_self) rfl) e2⟩
theorem each_back : ∀ {us : List Value} {bs : List (Addr × List Str)}, EachIs (fun u p => u = Value.ref p.1) us bs → us = bs.map fun p => Value.ref p.1
  | _, _, .nil => rfl
  | _, _, .cons h t => by rw [h, each_back t, List.map_cons]
/-- the products (as texts) in their order -/
def srtS (bs : List (Addr × List Str)) : List (Addr × List Str) := bs.mergeSort (dataLe false fun p => dS p.2)
theorem sorted_srt (hc : X.calm = true) (hu : X.A.units + 64 < cLine) {pins : List (Addr × Obj)} {s : Shared} {σ : L2.St} {H : Hp} (I : L2.Inv X pins σ H s) {x : Value} {Pb : List (Addr × List Str) → Prop}
    (hcol : ∀ (E' : Value → Shared → Prop) (Q' : List Value → Shared → Prop), (∀ s1 bs, (∀ b o, s.heap.get? b = some o → s1.heap.get? b = some o) → s1.gens = s.gens → s1.os = s.os → s.heap.objs.size ≤ s1.heap.objs.size → Pb bs → Q' (bs.map fun p => Value.ref p.1) s1) → wpAny (model X.prog X.w) X.A.in1 (collect x) Q' E' s)
    (hP : ∀ bs, Pb bs → (∀ p ∈ bs, Dp X.K H (.ref p.1) (dS p.2)) ∧ bs.length ≤ sizeLine) {Q : VK} {E : Value → Shared → Prop}
    (q : ∀ bs p, Pb bs → H p = none → Q (.ref p) (upd H p (.lst ((srtS bs).map fun p => V.ref p.1)))) :
    wpAny (model X.prog X.w) X.A (call (.builtin "sorted") [x]) (EP X pins σ Q) E s := by
  refine sorted_tups_of (Pv := fun vs bs => Pb bs ∧ vs = bs.map fun p => Value.ref p.1) (R := fun u p => u = Value.ref p.1) (enc := fun p => dS p.2) (fun E' Q' k => hcol E' Q' fun s1 bs h1 h2 h3 h4 h5 => k s1 _ bs h1 h2 h3 h4 ⟨h5, rfl⟩) (fun vs bs h => ?_) (fun s' p out c vs bs k g o hp hg h e => ?_)
  · obtain ⟨h, rfl⟩ := h
    obtain ⟨h1, h2⟩ := hP bs h
    obtain ⟨e1, e2⟩ := each_refs I h1
    refine ⟨e1, e2, AllAlike.of fun b b' => dS_alike _ _, fun d hd => ?_, fun d hd => ?_, by rw [List.length_map]; exact h2⟩
    · obtain ⟨b, _, rfl⟩ := List.mem_map.mp hd
      exact ⟨_, rfl⟩
    · obtain ⟨b, _, rfl⟩ := List.mem_map.mp hd
      have := dS_depth b.2
      omega
  · obtain ⟨h, rfl⟩ := h
    obtain ⟨h1, h2⟩ := hP bs h
    have hn : H p = none := I.hok.fresh hp
    have hout : out.toList = (srtS bs).map fun p => Value.ref p.1 := each_back e
    have hl : ((srtS bs).map fun p => V.ref p.1).length ≤ sizeLine := by unfold srtS; rw [List.length_map, List.length_mergeSort]; exact h2
    have rv : ∀ l : List (Addr × List Str), Vals (l.map fun p => V.ref p.1) (l.map fun p => Value.ref p.1) := fun l => by
      induction l with
      | nil => exact .nil
      | cons x l ih => exact .cons rfl ih
    have J : Inv X pins σ (upd H p (.lst ((srtS bs).map fun p => V.ref p.1))) { s with heap := s'.heap, gens := s'.gens, drawn := s'.drawn, toks := s'.toks } :=
      I.call (ch := []) (Un.laid k hp hn) (I.hok.laid k hp ⟨hl, out.toList, c, by rw [hout]; exact rv _, hg⟩) (by rw [g]; exact I.bare) (fun _ z => nomatch z)
    have e' : s' = { s with heap := s'.heap, gens := s'.gens, drawn := s'.drawn, toks := s'.toks } := by
      cases s'
      cases s
      cases o
      rfl
    rw [e']
    exact ⟨.ref p, _, J, rfl, q bs p h hn⟩
/-- sorted(set of tuples of texts) -/
theorem cr_sortTS (hc : X.calm = true) (hu : X.A.units + 64 < cLine) : CallR X (.builtin "sorted") (fun vs H Q => ∃ (a : Addr) (L : List (Addr × List Str)), vs = [.ref a] ∧ H a = some (SetS X.prog X.w a L) ∧ (∀ p ∈ L, Dp X.K H (.ref p.1) (dS p.2)) ∧
    ∀ p bs, bs.Perm L → H p = none → Q (.ref p) (upd H p (.lst ((srtS bs).map fun p => V.ref p.1)))) := by
  intro pins s σ H vs us Q I r h
  obtain ⟨a, L, rfl, ha, hd, q⟩ := h
  rw [Vals.ref1 r]
  obtain ⟨es, ep, t, ⟨o, ho, hex, hdt⟩, row, tab, dis, ord, rm, lt⟩ := (show SetM0 X.prog X.w s.heap a L from (I.hok a _ ha).1)
  have z : es.size = L.length := rows_size row
  have tz := tab.sz
  rw [hshs_len] at tz
  have fits : t.fits es.size = true := by
    simp only [SetTable.fits, SetTable.fill, tab.dm, Bool.and_eq_true, beq_iff_eq, decide_eq_true_eq]
    exact ⟨by omega, by show t.place.size + 0 ≤ t.mask; omega⟩
  refine sorted_srt hc hu I (Pb := fun b => b.Perm L) (fun E' Q' k => ?_) (fun b e => ⟨fun p hp => hd p (e.mem_iff.mp hp), by rw [e.length_eq, sizeLine_eq]; omega⟩) (fun b p e hp => q p b e hp)
  refine L2.collect_set (A := X.A.in1) (I.ok.hd hc) ⟨o, ho, hex.1, hdt⟩ fits (by unfold scanBound; omega) tab.ris ord fun s1 vs k1 hz g1 o1 pm => ?_
  have e : es.toList.map (·.2) = L.map fun p => Value.ref p.1 := by rw [row]; unfold mems; rw [List.map_map]; rfl
  rw [e] at pm
  obtain ⟨bs, hb, rfl⟩ := perm_map pm rfl
  exact k _ _ k1 g1 o1 hz hb
def storeE (es : List EntN) (x : EntN) : List EntN := if (valN es (keyN x.1)).isSome then es.map fun y => if keyN y.1 = keyN x.1 then (y.1, y.2.1, x.2.2) else y else es ++ [x]
theorem KN.store {es : List EntN} {xs : List (NestedKey × Addr × Value)} (r : KN es xs) {p : EntN} {q : NestedKey × Addr × Value} (h : q.1 = keyN p.1 ∧ q.2.1 = p.2.1 ∧ RelV p.2.2 q.2.2) : KN (storeE es p) (storedH xs q.1 q.2.1 q.2.2) := by
  have hv := r.val q.1
  rw [h.1] at hv
  unfold storeE
  cases ea : atKey xs q.1 with
  | none =>
    rw [← h.1] at hv ⊢
    rw [ea] at hv
    have en : valN es q.1 = none := by
      cases ev : valN es q.1 with
      | none => rfl
      | some v => rw [ev] at hv; exact hv.elim
    rw [storedH_new ea, en, if_neg (by simp)]
    exact r.snoc h
  | some pv =>
    rw [← h.1] at hv ⊢
    rw [ea] at hv
    have en : (valN es q.1).isSome = true := by
      cases ev : valN es q.1 with
      | none => rw [ev] at hv; exact hv.elim
      | some v => rfl
    rw [storedH_old ea, if_pos en]
    clear ea hv en
    unfold KN at r ⊢
    induction r with
    | nil => exact .nil
    | @cons y z ys zs hh t ih =>
      refine .cons ?_ ih
      obtain ⟨h1, h2, h3⟩ := hh
      unfold putAt
      dsimp only
      by_cases e : keyN y.1 = q.1
      · rw [if_pos e, if_pos (h1.trans e)]
        exact ⟨h1, h2, h.2.2⟩
      · rw [if_neg e, if_neg (fun w => e (h1.symm.trans w))]
        exact ⟨h1, h2, h3⟩
def storeAll (es ps : List EntN) : List EntN := ps.foldl storeE es
theorem KN.storeAll {ps : List EntN} {qs : List (NestedKey × Addr × Value)} (h : KN ps qs) : ∀ {es : List EntN} {xs : List (NestedKey × Addr × Value)}, KN es xs → KN (storeAll es ps) (storedAllH xs qs) := by
  unfold KN at h
  induction h with
  | nil => intro es xs r; exact r
  | cons hh t ih => intro es xs r; exact ih (r.store hh)
theorem storeE_len (es : List EntN) (x : EntN) : (storeE es x).length ≤ es.length + 1 := by
  unfold storeE
  split
  · rw [List.length_map]; omega
  · rw [List.length_append]; exact Nat.le_refl _
theorem storeAll_len : ∀ (ps es : List EntN), (storeAll es ps).length ≤ es.length + ps.length
  | [], es => Nat.le_refl _
  | x :: ps, es => by
    have := storeAll_len ps (storeE es x)
    have := storeE_len es x
    show (storeAll (storeE es x) ps).length ≤ _
    rw [List.length_cons]
    omega
theorem rel_vals : ∀ {ts : List Addr} {us : List Value}, Vals (ts.map V.ref) us → us = ts.map Value.ref
  | [], _, .nil => rfl
  | t :: ts, _, .cons r h => by
    cases r
    rw [rel_vals h]
    rfl
/-- the pairs as they lie in the list: their tuples ts -/
theorem cr_dictN (hc : X.calm = true) (hu : X.A.units + 64 < cLine) : CallR X (.type "dict") (fun vs H Q => ∃ (l : Addr) (ts : List Addr) (ps : List EntN), vs = [.ref l] ∧ SqL X.K H l (ts.map V.ref) ∧ Paired (fun (t : Addr) (p : EntN) => SqT X.K H t [.ref p.2.1, p.2.2]) ts ps ∧ Keys X.K H ps ∧
    ∀ a, H a = none → Q (.ref a) (upd H a (TN X.prog X.w a (storeAll [] ps)))) := by
  intro pins s σ H vs us Q I r h
  obtain ⟨l, ts, ps, rfl, hl, hp, hk, q⟩ := h
  rw [Vals.ref1 r]
  obtain ⟨its, rv, pl, hz⟩ := I.list hl
  obtain rfl := rel_vals rv
  have hn : ts.length = ps.length := hp.length
  rw [List.length_map] at hz
  have vals : ∀ {ts : List Addr} {ps : List EntN}, Paired (fun (t : Addr) (p : EntN) => SqT X.K H t [.ref p.2.1, p.2.2]) ts ps → ∃ qs : List (NestedKey × Addr × Value), KN ps qs ∧ ∀ (j : Nat) (t : Addr) (q : NestedKey × Addr × Value), ts[j]? = some t → qs[j]? = some q → PairAt s.heap t (.ref q.2.1) q.2.2 := by
    intro ts ps h
    induction h with
    | nil => exact ⟨[], .nil, fun j t q e => by simp at e⟩
    | @cons t p ts ps h1 _ ih =>
      obtain ⟨qs, r1, r2⟩ := ih
      obtain ⟨jt, rt, ⟨o, ho, hcl, n, hd⟩, _⟩ := I.tuple h1
      cases rt with
      | cons ra rb =>
        cases rb with
        | @cons _ u _ _ rc rd =>
          cases rd
          cases ra
          refine ⟨(keyN p.1, p.2.1, u) :: qs, .cons ⟨rfl, rfl, rc⟩ r1, fun j t' q e1 e2 => ?_⟩
          cases j with
          | zero =>
            cases e1
            cases e2
            exact .inl ⟨o, ho, hcl, n, by simpa using hd⟩
          | succ j => exact r2 j t' q e1 e2
  obtain ⟨qs, rq, hat⟩ := vals hp
  have ql : qs.length = ps.length := (show Paired _ _ _ from rq).length.symm
  have keys : ∀ {l : List EntN} {m : List (NestedKey × Addr × Value)}, KN l m → Keys X.K H l → ∀ x ∈ m, (nestedKind X.prog X.w).is s.heap x.1 x.2.1 := by
    intro l m q
    unfold KN at q
    induction q with
    | nil => intro _ x hx; exact nomatch hx
    | @cons p q ps qs hq t ih =>
      intro hz x hx
      rcases List.mem_cons.mp hx with e | hx
      · subst e
        obtain ⟨d1, d2, d3⟩ := hz p List.mem_cons_self
        refine ⟨?_, by rw [hq.1]; exact d3⟩
        rw [hq.1, hq.2.1]
        exact nested_of I p.1 _ _ d1 rfl d2
      · exact ih (fun z hz' => hz z (List.mem_cons_of_mem _ hz')) x hx
  have item : ∀ (j : Nat) (q : NestedKey × Addr × Value), qs[j]? = some q → ∃ t, ts[j]? = some t ∧ PairAt s.heap t (.ref q.2.1) q.2.2 := fun j q e => by
    have hj := (List.getElem?_eq_some_iff.mp e).1
    have ht := List.getElem?_eq_getElem (l := ts) (i := j) (by omega)
    exact ⟨_, ht, hat j _ q ht e⟩
  have il : (ts.map Value.ref).toArray.size = (qs.map fun q => (Value.ref q.2.1, q.2.2)).length := by rw [List.size_toArray, List.length_map, List.length_map]; omega
  refine call_dict_pairsH (knd := nestedKind X.prog X.w) (ps := qs) (PairArg.list l (ts.map Value.ref).toArray (fun j => ts.getD j 0) (qs.map fun q => (Value.ref q.2.1, q.2.2))) (I.ok.hd hc) (by show _ + 8 < cLine; simp; omega)
    ⟨let ⟨o, n, h1, h2, h3, h4⟩ := pl; ⟨o, n, h1, h2, h3, h4⟩, il, fun j k v hj => ?_⟩ ⟨by rw [List.length_map], fun i key v hr => ?_⟩ (fun h' hk' x hx => nestedKind_stays.stays (fun b o vs n e _ => hk' b o (Nat.ne_of_lt (Heap.lt_size e)) (by simp) e) (keys rq hk x hx)) (by rw [List.length_map]; omega) fun h' tk hd k => ?_
  · rw [List.getElem?_map] at hj
    obtain ⟨q, hq, e⟩ := Option.map_eq_some_iff.mp hj
    cases e
    obtain ⟨t, ht, hp⟩ := item j q hq
    have e2 : ts.getD j 0 = t := by rw [List.getD_eq_getElem?_getD, ht]; rfl
    dsimp only
    rw [e2]
    exact ⟨by simp [ht], hp⟩
  · unfold PairRel at hr
    rw [List.getElem?_map] at hr
    obtain ⟨q, hq, e⟩ := Option.map_eq_some_iff.mp hr
    cases e
    exact ⟨q.1, q.2.1, hq, rfl⟩
  · have k' : ∀ b o, s.heap.get? b = some o → h'.get? b = some o := fun b o e => k b o (by simp) e
    have hl2 : (storeAll [] ps).length ≤ sizeLine := Nat.le_trans (storeAll_len ps []) (by rw [List.length_nil]; omega)
    obtain ⟨o, es, ep, ho, hex, hdt, he, _, nd⟩ := hd
    have hb := L2.Inv.big I
    have ns : (s.heap.objs.size == sysModules) = false := by
      simp only [beq_eq_false_iff_ne, ne_eq]
      intro z
      rw [z] at hb
      exact absurd hb (Nat.lt_irrefl _)
    refine ⟨.ref s.heap.objs.size, _, I.laid (a := s.heap.objs.size) (o := TN X.prog X.w s.heap.objs.size (storeAll [] ps)) (t' := tk) k' (Nat.le_refl _) ?_, rfl, q _ (I.hok.fresh (Nat.le_refl _))⟩
    exact ⟨⟨ns, hl2, _, KN.storeAll rq .nil, nd, o, es, ep, ho, hex, hdt, he⟩, ⟨o, ho⟩, fun h1 h2 ⟨a1, a2, ws, a3, a4, q, en, ep, b1, b2⟩ k => ⟨a1, a2, ws, a3, a4, q, en, ep, k _ b1, b2⟩⟩
/-- what is collected from the keys of a dict (the heap grows) -/
theorem coll_src {prog : Program} {w : World} {A : Around} {E : Value → Shared → Prop} {s : Shared} {T : String} {r d : Addr} {n : Nat} {Pk : Nat → Value → Prop} {OK : Heap → Prop} {R : List Value → Shared → Prop} (K : PySem.W.KdlSrc prog w T r d n Pk OK) (hh : A.handled = none) (ok : OK s.heap) (hn : n ≤ sizeLine)
    (q : ∀ (h' : Heap) (tk : Nat) (acc : Array Value), (∀ b o, s.heap.get? b = some o → h'.get? b = some o) → s.heap.objs.size ≤ h'.objs.size → ItemsOf Pk acc n → R acc.toList { s with heap := h', toks := tk }) : wpAny (model prog w) A (collect (.ref r)) R E s := by
  have here := K.there _ ok
  have new : (s.heap.push { cls := .type "list", data := .seq ([] : List Value).toArray }).get? s.heap.objs.size = some { cls := .type "list", data := .seq #[] } := Heap.get?_push_size _ rfl
  unfold collect
  refine wpAny_bind (wpAny_runValue (codeAny_builtin entry_proto_collect' ?_))
  rw [Around.under_plainId PySem.F.plain_proto_collect _]
  show wpAny _ A.in1 (newList [] >>= fun l => again (.builtin "list.__iadd__" ⟨[l, .ref r], []⟩)) _ _ s
  refine wpAny_bind (wpAny_newObj_type (wpAny_pure ⟨plainId_quiet PySem.F.plain_list_iadd _, codeAny_builtin entry_list_iadd' ?_⟩))
  rw [Around.under_plainId PySem.F.plain_list_iadd _]
  show wpAny _ A.in1 (Builtin.List.listExtendWith (.ref s.heap.objs.size) (.ref r) (.ref s.heap.objs.size)) _ _ _
  refine wpAny_mono (PySem.W.kdl_extend (A := A) (s := { s with heap := s.heap.push { cls := .type "list", data := .seq ([] : List Value).toArray } })
    (R := fun (z : Result) (s' : Shared) => ∃ (h' : Heap) (tk : Nat) (acc : Array Value) (c : Nat), z = .ok (.ret (.ref s.heap.objs.size)) ∧ s' = { s with heap := h', toks := tk } ∧ (∀ b o, s.heap.get? b = some o → h'.get? b = some o) ∧
      h'.get? s.heap.objs.size = some { cls := .type "list", dict := none, data := .seq acc c, slots := #[] } ∧ ItemsOf Pk acc n)
    K hh (K.keep _ _ ok fun b _ o e => Heap.get?_push_of_some _ e) s.heap.objs.size (Nat.ne_of_gt here.1) (Nat.ne_of_gt here.2) (.ref s.heap.objs.size) 0 new
    (fun h' tk acc c k hS ha => ⟨h', tk, acc, c, rfl, rfl, fun b o e => k b o (Nat.ne_of_lt (Heap.lt_size e)) (Heap.get?_push_of_some _ e), hS, ha⟩) hn) (fun fin s' x => ?_) fun e s' x => ?_
  · have fin_ : ∀ s2 : Shared, (∃ (h' : Heap) (tk : Nat) (acc : Array Value) (c : Nat), s2 = { s with heap := h', toks := tk } ∧ (∀ b o, s.heap.get? b = some o → h'.get? b = some o) ∧ h'.get? s.heap.objs.size = some { cls := .type "list", dict := none, data := .seq acc c, slots := #[] } ∧ ItemsOf Pk acc n) →
        wpAny (model prog w) A (load s.heap.objs.size >>= fun o => match o.data with | .seq xs _ => pure xs.toList | _ => unsupported "internal:collect") R E s2 := fun s2 ⟨h', tk, acc, c, e, k, hS, ha⟩ => by
      subst e
      exact wpAny_bind (wpAny_load hS (wpAny_pure (q h' tk acc k (Nat.le_of_lt (Heap.lt_size hS)) ha)))
    cases fin with
    | done f =>
      obtain ⟨h', tk, acc, c, e, y⟩ := x
      cases e
      exact fin_ _ ⟨h', tk, acc, c, y⟩
    | again c' =>
      refine ⟨x.1, codeAny_mono x.2 fun z s2 y => ?_⟩
      obtain ⟨h', tk, acc, c, rfl, y⟩ := y
      exact fin_ _ ⟨h', tk, acc, c, y⟩
  · obtain ⟨_, _, _, _, e', _⟩ := x
    cases e'
/-- sorted(dict), its keys tuples of texts -/
theorem cr_sortTD (hc : X.calm = true) (hu : X.A.units + 64 < cLine) : CallR X (.builtin "sorted") (fun vs H Q => ∃ (a : Addr) (es : List EntN) (bs : List (Addr × List Str)), vs = [.ref a] ∧ H a = some (TN X.prog X.w a es) ∧ es.map (fun x => (x.1, x.2.1)) = bs.map (fun p => (dS p.2, p.1)) ∧ (∀ p ∈ bs, Dp X.K H (.ref p.1) (dS p.2)) ∧
    ∀ p, H p = none → Q (.ref p) (upd H p (.lst ((srtS bs).map fun p => V.ref p.1)))) := by
  intro pins s σ H vs us Q I r h
  obtain ⟨a, es, bs, rfl, ha, he, hd, q⟩ := h
  rw [Vals.ref1 r]
  obtain ⟨h1, h2, xs, rq, nd, o, ens, ep, ho, hex, hdt, hens⟩ := (show ObjOk X.prog X.w H s.heap a (TN X.prog X.w a es) from I.hok a _ ha).1
  have hbl : bs.length = es.length := by have := congrArg List.length he; simpa using this.symm
  have hxl : xs.length = es.length := (show Paired _ _ _ from rq).length.symm
  have hel : ens.size = xs.length := by rw [← Array.length_toList, hens, List.length_map]
  have keyat : ∀ i (hi : i < ens.size) p, bs[i]? = some p → ens[i].key = Value.ref p.1 := fun i hi p hp => by
    have g1 : (es.map (fun x => (x.1, x.2.1)))[i]? = some (dS p.2, p.1) := by rw [he, List.getElem?_map, hp]; rfl
    rw [List.getElem?_map] at g1
    obtain ⟨x, hx, ex⟩ := Option.map_eq_some_iff.mp g1
    have go : ∀ {l : List EntN} {m : List (NestedKey × Addr × Value)} (r : KN l m) (i : Nat) x, l[i]? = some x → ∃ y, m[i]? = some y ∧ y.2.1 = x.2.1 := by
      intro l m r
      unfold KN at r
      induction r with
      | nil => intro i x e; simp at e
      | @cons u v us vs hh t ih =>
        intro i x e
        cases i with
        | zero => cases e; exact ⟨v, rfl, hh.2.1⟩
        | succ i => exact ih i x e
    obtain ⟨y, hy, ey⟩ := go rq i x hx
    have g2 : ens.toList[i]? = some (entryOfKey (nestedKind X.prog X.w) y) := by rw [hens, List.getElem?_map, hy]; rfl
    rw [Array.getElem?_toList, Array.getElem?_eq_getElem hi] at g2
    rw [Option.some.inj g2]
    show Value.ref y.2.1 = _
    rw [ey]
    have := congrArg Prod.snd ex
    exact congrArg Value.ref this
  refine sorted_srt hc hu I (Pb := fun b => b = bs) (fun E' Q' k => ?_) (fun b e => by subst e; exact ⟨hd, by omega⟩) (fun b p e hp => by subst e; exact q p hp)
  refine coll_src (A := X.A.in1) (PySem.KdlSrc.rawDict h1) (I.ok.hd hc) (⟨o, ho, hex, hdt⟩ : s.heap.DictRaw a ens ep) (by omega) fun h' tk acc hk hz hacc => ?_
  have e : acc.toList = bs.map fun p => Value.ref p.1 := by
    refine List.ext_getElem? fun i => ?_
    rw [List.getElem?_map]
    by_cases hi : i < bs.length
    · have hia : i < acc.size := by rw [hacc.1]; omega
      have g := Array.getElem?_eq_getElem hia
      obtain ⟨hj, ev⟩ := hacc.2 i _ g
      rw [Array.getElem?_toList, g, ev, List.getElem?_eq_getElem hi, keyat i hj _ (List.getElem?_eq_getElem hi)]
      rfl
    · rw [List.getElem?_eq_none (show bs.length ≤ i by omega), List.getElem?_eq_none (show acc.toList.length ≤ i by rw [Array.length_toList, hacc.1]; omega)]
      rfl
  rw [e]
  exact k _ bs hk rfl rfl hz rfl
end
end L3
namespace PySem.SeqAt
open AutoSeq1 (wpAny_loadPart')
open MeetsSeq
end PySem.SeqAt
namespace L3
open PySem PySem.Spec PyProof.Rows L2
end L3
namespace L3
open PySem PySem.Spec PyProof.Rows L2
end L3
namespace L3
open PySem PySem.Spec PyProof.Rows L2
def tDisp1X (P : Program) (w : World) (K : PySem.W.Frag) (tk tv : TE) : TE := fun σ H Q => ∀ p, H p = none → tk σ (upd H p (TN P w p [])) fun x H1 => tv σ H1 fun y H2 => H2 p = some (TN P w p []) ∧
  ∃ d q, x = .ref q ∧ Dp K H2 (.ref q) d ∧ keyable d = true ∧ (keyN d).depth ≤ 8 ∧ Q (.ref p) (upd H2 p (TN P w p [(d, q, y)]))
theorem pe_disp1X {X : Cx} {pos : Pos} {k v : Expr} {tk tv : TE} (hu : X.A.units + 64 < cLine) (hk : PE X k tk) (hv : PE X v tv) : PE X (.Dict [some k] [v] pos) (tDisp1X X.prog X.w X.K tk tv) := by
  refine ⟨fun pins s σ H Q I q => ?_⟩
  have hb := L2.Inv.big I
  have hm : (s.heap.objs.size == sysModules) = false := by
    simp only [beq_eq_false_iff_ne, ne_eq]
    intro z
    rw [z] at hb
    exact absurd hb (Nat.lt_irrefl _)
  have hg : (s.heap.push { cls := .type "dict", data := .dict #[] }).get? s.heap.objs.size = some { cls := .type "dict", data := .dict #[] } := Heap.get?_push_size _ rfl
  have hn := I.hok.fresh (Nat.le_refl s.heap.objs.size)
  have I1 := I.laid (a := s.heap.objs.size) (o := TN X.prog X.w s.heap.objs.size []) (h' := s.heap.push { cls := .type "dict", data := .dict #[] }) (t' := s.toks) (fun _ _ q => Heap.get?_push_of_some _ q) (Nat.le_refl _)
    ⟨⟨hm, Nat.zero_le _, [], .nil, by simp, ⟨_, #[], 0, hg, ⟨rfl, rfl, rfl⟩, rfl, rfl⟩⟩, ⟨_, hg⟩, fun h1 h2 ⟨a1, a2, ws, a3, a4, q, en, ep, b1, b2⟩ k => ⟨a1, a2, ws, a3, a4, q, en, ep, k _ b1, b2⟩⟩
  have hall : ([some k] : List (Option Expr)).all (·.isSome) = true := rfl
  have hlen := pairTrees_length [some k] [v] X.env pos hall rfl
  have hne : pairTrees [some k] [v] X.env pos ≠ [] := fun he => by rw [he] at hlen; cases hlen
  have h15 : (pairTrees [some k] [v] X.env pos).length ≤ 15 := by rw [hlen]; exact (by decide : 1 ≤ 15)
  rw [arm_eval_Dict, zip_pairTrees [some k] [v] X.env pos hall rfl, dictDisplay_pairs _ hne (by omega)]
  refine wpAny_bind (wpAny_standAt (wpAny_bind (wpAny_subDictH (knd := nestedKind X.prog X.w) (Q := fun d s' => wpAny (model X.prog X.w) X.A (pure (Value.ref d)) (EP X pins σ Q) X.xe s') (show X.A.units + 8 < cLine by omega) h15 ?_)))
  refine pairTrees_cons_walk (thn (hk.run pins _ σ _ _ I1 (q _ hn)) fun u s1 ⟨x, H1, I2, rx, q1⟩ => thn (hv.run pins s1 σ H1 _ I2 q1) fun w2 s2 ⟨y, H2, I3, ry, hp, d, a, ex, hd, kd, dd, q2⟩ => pairTrees_nil_walk ?_)
  subst ex
  cases (show u = Value.ref a from rx)
  obtain ⟨_, z, xs, rel, dict⟩ := tn_of I3 hp (fun x hx => nomatch hx)
  cases rel
  refine ⟨[(keyN d, a, w2)], ⟨rfl, rfl, ⟨nested_of I3 d _ _ hd rfl kd, dd⟩, trivial⟩, dict, fun h' tk dd' hs => wpAny_pure ⟨.ref s.heap.objs.size, _, ?_, rfl, q2⟩⟩
  obtain ⟨ob, ens, ep, hq, h2, h3, h4, _, h5⟩ := dd'
  have e : storedAllH [] [(keyN d, a, w2)] = [(keyN d, a, w2)] := rfl
  rw [e] at h4 h5
  exact d_write (t' := tk) I3 (by rw [hp]; exact True.intro) hs ⟨ob, hq⟩ ⟨⟨hm, by show 1 ≤ sizeLine; decide, _, .cons (a := ((d, a, y) : EntN)) ⟨rfl, rfl, ry⟩ .nil, h5, ob, ens, ep, hq, h2, h3, h4⟩, ⟨ob, hq⟩, fun h1 h2 ⟨a1, a2, ws, a3, a4, q, en, ep, b1, b2⟩ k => ⟨a1, a2, ws, a3, a4, q, en, ep, k _ b1, b2⟩⟩
end L3
namespace M23
/-- a piece is its text; 42 is the star's sign -/
abbrev Pc := List Nat
abbrev Pd := List Pc
def isS (x : Pc) : Bool := x.getLast? == some 42
def lt (x : Pc) : List Nat := if isS x then x.dropLast else x
def holds (y x : Pc) : Bool := if isS y then (lt x).all fun c => decide (c ∈ lt y) else decide (y = x)
def step : Pd → Pc → Option Pd
  | [], _ => none
  | y :: r, x => if holds y x then some (if isS y then y :: r else r) else step r x
def run : Pd → Pd → Option Pd
  | q, [] => some q
  | q, x :: p => (step q x).bind fun q' => run q' p
inductive Emb : Pd → Pd → Prop
  | nil (q : Pd) : Emb [] q
  | skip {p q : Pd} (y : Pc) : Emb p q → Emb p (y :: q)
  | star {x y : Pc} {p q : Pd} : isS y = true → holds y x = true → Emb p (y :: q) → Emb (x :: p) (y :: q)
  | one {x : Pc} {p q : Pd} : isS x = false → Emb p q → Emb (x :: p) (x :: q)
theorem holds_self (x : Pc) : holds x x = true := by
  unfold holds
  split
  · exact List.all_eq_true.mpr fun c hc => decide_eq_true hc
  · exact decide_eq_true rfl
theorem holds_one {x y : Pc} (h : isS y = false) : holds y x = true ↔ y = x := by
  unfold holds
  rw [h, if_neg (by decide), decide_eq_true_iff]
theorem holds_star {x y : Pc} (h : isS y = true) : holds y x = true ↔ ∀ c ∈ lt x, c ∈ lt y := by
  unfold holds
  rw [if_pos h, List.all_eq_true]
  exact ⟨fun z c hc => of_decide_eq_true (z c hc), fun z c hc => decide_eq_true (z c hc)⟩
theorem holds_trans {x y z : Pc} (hy : isS y = true) (h1 : holds y x = true) (h2 : holds x z = true) : holds y z = true := by
  rw [holds_star hy] at h1 ⊢
  cases hx : isS x with
  | true => exact fun c hc => h1 c ((holds_star hx).mp h2 c hc)
  | false => rw [(holds_one hx).mp h2] at h1; exact h1
theorem Emb.refl : ∀ p : Pd, Emb p p
  | [] => .nil _
  | x :: p => by
    cases h : isS x with
    | true => exact .star h (holds_self x) (.skip x (Emb.refl p))
    | false => exact .one h (Emb.refl p)
theorem Emb.tail {x : Pc} {p q : Pd} (h : Emb (x :: p) q) : Emb p q := by
  generalize e : x :: p = y at h
  induction h generalizing x p with
  | nil => cases e
  | skip y _ ih => exact .skip y (ih e)
  | star _ _ h _ => cases e; exact h
  | @one x' p' q' _ h _ => cases e; exact .skip x' h
theorem emb_nil {p : Pd} (h : Emb p []) : p = [] := by cases h; rfl
theorem Emb.trans {p q r : Pd} (h1 : Emb p q) (h2 : Emb q r) : Emb p r := by
  induction h2 generalizing p with
  | nil r => rw [emb_nil h1]; exact .nil _
  | skip y _ ih => exact .skip y (ih h1)
  | @star x y q' r' hy hyx h ih =>
    have key : ∀ p : Pd, Emb p (x :: q') → Emb p (y :: r') := by
      intro p
      induction p with
      | nil => intro _; exact .nil _
      | cons z p ihp =>
        intro h1
        cases h1 with
        | skip _ h1 => exact ih h1
        | star hx hxz h1 => exact .star hy (holds_trans hy hyx hxz) (ihp h1)
        | one hx h1 => exact .star hy hyx (ih h1)
    exact key p h1
  | @one x q' r' hx h ih =>
    cases h1 with
    | nil => exact .nil _
    | skip _ h1 => exact .skip _ (ih h1)
    | star hx' _ _ => rw [hx] at hx'; cases hx'
    | one _ h1 => exact .one hx (ih h1)
theorem step_suffix : ∀ {q : Pd} {x : Pc} {r : Pd}, step q x = some r → ∃ a, q = a ++ r
  | [], _, _, h => by cases h
  | y :: q, x, r, h => by
    unfold step at h
    split at h
    · cases h
      split
      · exact ⟨[], rfl⟩
      · exact ⟨[y], rfl⟩
    · obtain ⟨a, e⟩ := step_suffix h
      exact ⟨y :: a, by rw [e]; rfl⟩
theorem Emb.app {p q : Pd} (a : Pd) (h : Emb p q) : Emb p (a ++ q) := by
  induction a with
  | nil => exact h
  | cons y a ih => exact .skip y ih
theorem step_emb : ∀ {q : Pd} {x : Pc} {r p : Pd}, step q x = some r → Emb p r → Emb (x :: p) q
  | [], _, _, _, h, _ => by cases h
  | y :: q, x, r, p, h, e => by
    unfold step at h
    split at h
    · rename_i hh
      cases h
      cases hy : isS y with
      | true => rw [hy, if_pos rfl] at e; exact .star hy hh e
      | false =>
        rw [hy, if_neg (by decide)] at e
        have g := (holds_one hy).mp hh
        subst g
        exact .one hy e
    · exact .skip y (step_emb h e)
theorem emb_step {x : Pc} {p q : Pd} (h : Emb (x :: p) q) : ∃ r, step q x = some r ∧ Emb p r := by
  generalize e : x :: p = z at h
  induction h generalizing x p with
  | nil => cases e
  | @skip p' q' y h' ih =>
    obtain ⟨r, h1, h2⟩ := ih e
    by_cases hh : holds y x = true
    · refine ⟨_, by unfold step; rw [if_pos hh], ?_⟩
      obtain ⟨a, ea⟩ := step_suffix h1
      have h3 : Emb p q' := by rw [ea]; exact h2.app a
      split
      · exact .skip y h3
      · exact h3
    · exact ⟨r, by unfold step; rw [if_neg hh]; exact h1, h2⟩
  | @star x' y p' q' hy hh h' ih =>
    cases e
    exact ⟨y :: q', by unfold step; rw [if_pos hh, if_pos hy], h'⟩
  | @one x' p' q' hx h' ih =>
    cases e
    exact ⟨q', by unfold step; rw [if_pos (holds_self _), if_neg (by rw [hx]; decide)], h'⟩
theorem run_emb : ∀ {p q : Pd}, (run q p).isSome = true ↔ Emb p q
  | [], q => ⟨fun _ => .nil q, fun _ => rfl⟩
  | x :: p, q => by
    constructor
    · intro h
      unfold run at h
      cases hs : step q x with
      | none => rw [hs] at h; cases h
      | some r =>
        rw [hs] at h
        exact step_emb hs (run_emb.mp h)
    · intro h
      obtain ⟨r, h1, h2⟩ := emb_step h
      unfold run
      rw [h1]
      exact run_emb.mpr h2
theorem run_append : ∀ (a b q : Pd), run q (a ++ b) = (run q a).bind fun r => run r b
  | [], b, q => rfl
  | x :: a, b, q => by
    show (step q x).bind _ = ((step q x).bind _).bind _
    cases step q x with
    | none => rfl
    | some r => exact run_append a b r
theorem run_suffix : ∀ {p q r : Pd}, run q p = some r → ∃ a, q = a ++ r
  | [], q, r, h => ⟨[], by cases h; rfl⟩
  | x :: p, q, r, h => by
    unfold run at h
    cases hs : step q x with
    | none => rw [hs] at h; cases h
    | some r' =>
      rw [hs] at h
      obtain ⟨a, ea⟩ := step_suffix hs
      obtain ⟨b, eb⟩ := run_suffix (show run r' p = some r from h)
      exact ⟨a ++ b, by rw [ea, eb, List.append_assoc]⟩
def tP (t : List Nat) : Pd := t.map fun c => [c]
/-- t is one of the texts of q -/
def In (q : Pd) (t : List Nat) : Prop := Emb (tP t) q
theorem In.up {p q : Pd} {t : List Nat} (h : In p t) (e : Emb p q) : In q t := Emb.trans h e
theorem tP_append (s t : List Nat) : tP (s ++ t) = tP s ++ tP t := List.map_append
/-- a right piece: a letter, or a star of letters -/
def Ok (x : Pc) : Prop := (∃ c, c ≠ 42 ∧ x = [c]) ∨ ∃ l : List Nat, l ≠ [] ∧ l.Pairwise (· < ·) ∧ 42 ∉ l ∧ x = l ++ [42]
theorem isS_star (l : List Nat) : isS (l ++ [42]) = true := by unfold isS; simp
theorem isS_one {c : Nat} (h : c ≠ 42) : isS [c] = false := by unfold isS; simpa using h
theorem lt_star (l : List Nat) : lt (l ++ [42]) = l := by unfold lt; rw [isS_star, if_pos rfl]; simp
theorem lt_one {c : Nat} (h : c ≠ 42) : lt [c] = [c] := by unfold lt; rw [isS_one h, if_neg (by decide)]
theorem Ok.ne {x : Pc} (h : Ok x) : lt x ≠ [] := by
  rcases h with ⟨c, hc, rfl⟩ | ⟨l, h1, _, _, rfl⟩
  · rw [lt_one hc]; simp
  · rw [lt_star]; exact h1
theorem Ok.no {x : Pc} (h : Ok x) : ∀ c ∈ lt x, c ≠ 42 := by
  rcases h with ⟨c, hc, rfl⟩ | ⟨l, _, _, h2, rfl⟩
  · rw [lt_one hc]; intro d hd; rw [List.mem_singleton.mp hd]; exact hc
  · rw [lt_star]; intro d hd e; exact h2 (e ▸ hd)
theorem Ok.one {x : Pc} (h : Ok x) (hs : isS x = false) : ∃ c, c ≠ 42 ∧ x = [c] := by
  rcases h with h | ⟨l, _, _, _, rfl⟩
  · exact h
  · rw [isS_star] at hs; cases hs
/-- the letters of a piece, a star's so often -/
def blk (N : Nat) (x : Pc) : List Nat := if isS x then (List.replicate N (lt x)).flatten else x
def unr (N : Nat) (p : Pd) : List Nat := (p.map (blk N)).flatten
theorem run_stay {y : Pc} {r : Pd} (hy : isS y = true) : ∀ {l : List Nat}, (∀ c ∈ l, c ∈ lt y ∧ c ≠ 42) → run (y :: r) (tP l) = some (y :: r)
  | [], _ => rfl
  | c :: l, h => by
    have hc := h c List.mem_cons_self
    have hh : holds y [c] = true := (holds_star hy).mpr fun d hd => by
      rw [lt_one hc.2] at hd
      rw [List.mem_singleton.mp hd]
      exact hc.1
    show (step (y :: r) [c]).bind _ = _
    have e : step (y :: r) [c] = some (y :: r) := by unfold step; rw [if_pos hh, if_pos hy]
    rw [e]
    exact run_stay hy fun d hd => h d (List.mem_cons_of_mem _ hd)
theorem run_blk {N : Nat} {y : Pc} {r : Pd} (ok : Ok y) (hy : isS y = true) : run (y :: r) (tP (blk N y)) = some (y :: r) := by
  refine run_stay hy fun c hc => ?_
  unfold blk at hc
  rw [if_pos hy] at hc
  obtain ⟨l, hl, hcl⟩ := List.mem_flatten.mp hc
  rw [(List.mem_replicate.mp hl).2] at hcl
  exact ⟨hcl, ok.no c hcl⟩
/-- the text unrolled is one of the product -/
theorem unr_in (N : Nat) : ∀ {p : Pd}, (∀ x ∈ p, Ok x) → In p (unr N p)
  | [], _ => .nil _
  | x :: p, h => by
    have ih := unr_in N (p := p) fun y hy => h y (List.mem_cons_of_mem _ hy)
    have ok := h x List.mem_cons_self
    unfold In unr
    rw [List.map_cons, List.flatten_cons, tP_append, ← run_emb, run_append]
    cases hx : isS x with
    | true =>
      rw [run_blk ok hx]
      exact run_emb.mpr (.skip x ih)
    | false =>
      obtain ⟨c, hc, rfl⟩ := ok.one hx
      have e : blk N [c] = [c] := by unfold blk; rw [hx, if_neg (by decide)]
      rw [e]
      have e2 : run ([c] :: p) (tP [c]) = some p := by
        show (step ([c] :: p) [c]).bind _ = _
        have : step ([c] :: p) [c] = some p := by unfold step; rw [if_pos (holds_self _), hx, if_neg (by decide)]
        rw [this]
        rfl
      rw [e2]
      exact run_emb.mpr ih
/-- a letter that the first piece does not hold, or that is that piece itself: one goes on -/
theorem run_leave {y : Pc} {r q : Pd} : ∀ {l : List Nat}, (isS y = false ∧ l ≠ [] ∨ ∃ c ∈ l, holds y [c] = false) → run (y :: r) (tP l) = some q → ∃ a, r = a ++ q
  | [], h, _ => by
    rcases h with h | ⟨c, hc, _⟩
    · exact absurd rfl h.2
    · cases hc
  | c :: l, h, e => by
    have e' : (step (y :: r) [c]).bind (fun q' => run q' (tP l)) = some q := e
    by_cases hh : holds y [c] = true
    · have s : step (y :: r) [c] = some (if isS y then y :: r else r) := by unfold step; rw [if_pos hh]
      rw [s] at e'
      cases hy : isS y with
      | false =>
        rw [hy, if_neg (by decide)] at e'
        exact run_suffix e'
      | true =>
        rw [hy, if_pos rfl] at e'
        refine run_leave (l := l) (.inr ?_) e'
        rcases h with h | ⟨d, hd, hn⟩
        · rw [hy] at h; exact absurd h.1 (by decide)
        · rcases List.mem_cons.mp hd with rfl | hd
          · rw [hh] at hn; cases hn
          · exact ⟨d, hd, hn⟩
    · have s : step (y :: r) [c] = step r [c] := by
        conv => lhs; unfold step
        rw [if_neg hh]
      rw [s] at e'
      exact run_suffix (p := tP (c :: l)) e'
theorem rep_stay {x : Pc} (ok : Ok x) (hx : isS x = true) : ∀ (n : Nat) (q q' : Pd) (N : Nat), q.length ≤ n → n < N → run q (tP ((List.replicate N (lt x)).flatten)) = some q' →
    ∃ (a : Pd) (y : Pc) (b : Pd), q = a ++ y :: b ∧ isS y = true ∧ holds y x = true ∧ ∃ d, y :: b = d ++ q'
  | n, [], q', N, hq, hN, e => by
    obtain ⟨M, rfl⟩ : ∃ M, N = M + 1 := ⟨N - 1, by omega⟩
    rw [List.replicate_succ, List.flatten_cons, tP_append, run_append] at e
    cases h : lt x with
    | nil => exact absurd h ok.ne
    | cons c l =>
      rw [h] at e
      exact absurd e (by simp [tP, run, step])
  | 0, y :: r, q', N, hq, _, _ => absurd hq (by simp)
  | n + 1, y :: r, q', N, hq, hN, e => by
    by_cases good : isS y = true ∧ holds y x = true
    · obtain ⟨d, hd⟩ := run_suffix e
      exact ⟨[], y, r, rfl, good.1, good.2, d, hd⟩
    · obtain ⟨M, rfl⟩ : ∃ M, N = M + 1 := ⟨N - 1, by omega⟩
      rw [List.replicate_succ, List.flatten_cons, tP_append, run_append] at e
      cases h1 : run (y :: r) (tP (lt x)) with
      | none => rw [h1] at e; cases e
      | some q1 =>
        rw [h1] at e
        obtain ⟨a, ha⟩ := run_leave (y := y) (r := r) (q := q1) (l := lt x) (by
          cases hy : isS y with
          | false => exact .inl ⟨rfl, ok.ne⟩
          | true =>
            refine .inr (Classical.byContradiction fun z => good ⟨hy, (holds_star hy).mpr fun c hc => ?_⟩)
            have := Classical.not_not.mp fun w => z ⟨c, hc, by cases g : holds y [c] with | true => exact absurd g w | false => rfl⟩
            exact (holds_star hy).mp this c (by rw [lt_one (ok.no c hc)]; exact List.mem_singleton.mpr rfl)) h1
        have hl : q1.length ≤ n := by
          have := congrArg List.length ha
          rw [List.length_append] at this
          simp at hq
          omega
        obtain ⟨a2, y2, b2, e2, s2, g2, d2, f2⟩ := rep_stay ok hx n q1 q' M hl (by omega) e
        exact ⟨y :: a ++ a2, y2, b2, by rw [ha, e2]; simp, s2, g2, d2, f2⟩
/-- what the unrolled text is in, the product lies within -/
theorem emb_of_unr {N : Nat} : ∀ {p q : Pd}, (∀ x ∈ p, Ok x) → q.length < N → In q (unr N p) → Emb p q
  | [], q, _, _, _ => .nil q
  | x :: p, q, h, hN, hin => by
    have ok := h x List.mem_cons_self
    unfold In unr at hin
    rw [List.map_cons, List.flatten_cons, tP_append, ← run_emb, run_append] at hin
    cases h1 : run q (tP (blk N x)) with
    | none => rw [h1] at hin; cases hin
    | some q1 =>
      rw [h1] at hin
      obtain ⟨a, ha⟩ := run_suffix h1
      have hl : q1.length < N := by
        have := congrArg List.length ha
        rw [List.length_append] at this
        omega
      have ih : Emb p q1 := emb_of_unr (N := N) (fun y hy => h y (List.mem_cons_of_mem _ hy)) hl (run_emb.mp hin)
      cases hx : isS x with
      | true =>
        have e : blk N x = (List.replicate N (lt x)).flatten := by unfold blk; rw [if_pos hx]
        rw [e] at h1
        obtain ⟨b, y, d, e1, s1, g1, f, e2⟩ := rep_stay ok hx q.length q q1 N (Nat.le_refl _) hN h1
        rw [e1]
        exact Emb.app b (.star s1 g1 (by rw [e2]; exact ih.app f))
      | false =>
        obtain ⟨c, hc, rfl⟩ := ok.one hx
        have e : blk N [c] = [c] := by unfold blk; rw [hx, if_neg (by decide)]
        rw [e] at h1
        have s : step q [c] = some q1 := by
          have : (step q [c]).bind (fun q' => some q') = some q1 := h1
          cases hs : step q [c] with
          | none => rw [hs] at this; cases this
          | some r => rw [hs] at this; exact this
        exact step_emb s ih
/-- a product within some products lies within one -/
theorem emb_some {p : Pd} {qs : List Pd} (h : ∀ x ∈ p, Ok x) (z : ∀ t, In p t → ∃ q ∈ qs, In q t) : ∃ q ∈ qs, Emb p q := by
  obtain ⟨N, hN⟩ : ∃ N, ∀ q ∈ qs, q.length < N := by
    clear z
    induction qs with
    | nil => exact ⟨0, fun q hq => by cases hq⟩
    | cons q qs ih =>
      obtain ⟨N, hN⟩ := ih
      refine ⟨N + q.length + 1, fun r hr => ?_⟩
      rcases List.mem_cons.mp hr with rfl | hr
      · omega
      · have := hN r hr; omega
  obtain ⟨q, hq, hi⟩ := z _ (unr_in N h)
  exact ⟨q, hq, emb_of_unr h (hN q hq) hi⟩
/-- a piece beside a star that has all its letters -/
def idle (a b : Pc) : Prop := (isS a = true ∧ holds a b = true) ∨ (isS b = true ∧ holds b a = true)
def Red : Pd → Prop
  | [] => True
  | [_] => True
  | a :: b :: r => ¬ idle a b ∧ Red (b :: r)
theorem Red.tail {a : Pc} {r : Pd} (h : Red (a :: r)) : Red r := by
  cases r with
  | nil => trivial
  | cons b r => exact h.2
theorem red_no : ∀ {q : Pd} {y : Pc}, Red (y :: q) → ¬ Emb (y :: q) q
  | [], y, _, h => by cases h
  | z :: r, y, h, e => by
    cases e with
    | skip _ e => exact red_no h.2 e.tail
    | star hz hy _ => exact h.1 (.inr ⟨hz, hy⟩)
    | one _ e => exact red_no h.2 e
theorem star_eq {x y : Pc} (ox : Ok x) (oy : Ok y) (hx : isS x = true) (hy : isS y = true) (h1 : holds x y = true) (h2 : holds y x = true) : x = y := by
  rcases ox with ⟨c, hc, rfl⟩ | ⟨l, a1, a2, a3, rfl⟩
  · rw [isS_one hc] at hx; cases hx
  · rcases oy with ⟨c, hc, rfl⟩ | ⟨m, b1, b2, b3, rfl⟩
    · rw [isS_one hc] at hy; cases hy
    · rw [holds_star hx, lt_star, lt_star] at h1
      rw [holds_star hy, lt_star, lt_star] at h2
      have p : l.Perm m := (List.perm_ext_iff_of_nodup (a2.imp fun h => Nat.ne_of_lt h) (b2.imp fun h => Nat.ne_of_lt h)).mpr fun x => ⟨h2 x, h1 x⟩
      rw [p.eq_of_pairwise (fun a b _ _ h3 h4 => absurd (Nat.lt_trans h3 h4) (Nat.lt_irrefl _)) a2 b2]
/-- reduced products with the same texts are one -/
theorem red_uniq : ∀ {p q : Pd}, (∀ x ∈ p, Ok x) → (∀ x ∈ q, Ok x) → Red p → Red q → Emb p q → Emb q p → p = q
  | [], q, _, _, _, _, _, h => (emb_nil h).symm
  | x :: p, [], _, _, _, _, h, _ => by cases h
  | x :: p, y :: q, op, oq, rp, rq, h1, h2 => by
    have heads : (isS x = false ∧ x = y ∧ Emb p q) ∨ (isS y = true ∧ holds y x = true ∧ Emb p (y :: q)) := by
      cases h1 with
      | skip _ h1 => exact absurd (h2.trans h1) (red_no rq)
      | star a b c => exact .inr ⟨a, b, c⟩
      | one a b => exact .inl ⟨a, rfl, b⟩
    have heads2 : (isS y = false ∧ y = x ∧ Emb q p) ∨ (isS x = true ∧ holds x y = true ∧ Emb q (x :: p)) := by
      cases h2 with
      | skip _ h2 => exact absurd (h1.trans h2) (red_no rp)
      | star a b c => exact .inr ⟨a, b, c⟩
      | one a b => exact .inl ⟨a, rfl, b⟩
    have op' := fun z hz => op z (List.mem_cons_of_mem _ hz)
    have oq' := fun z hz => oq z (List.mem_cons_of_mem _ hz)
    rcases heads with ⟨a1, e, a2⟩ | ⟨a1, a2, a3⟩
    · subst e
      rcases heads2 with ⟨_, _, b2⟩ | ⟨b1, _, _⟩
      · rw [red_uniq op' oq' rp.tail rq.tail a2 b2]
      · rw [a1] at b1; cases b1
    · rcases heads2 with ⟨b1, e, _⟩ | ⟨b1, b2, b3⟩
      · rw [a1] at b1; cases b1
      · have e := star_eq (op x List.mem_cons_self) (oq y List.mem_cons_self) b1 a1 b2 a2
        subst e
        have low : ∀ {u v : Pd}, Red (x :: u) → Emb u (x :: v) → Emb u v := fun {u v} r e => by
          cases e with
          | nil => exact .nil _
          | skip _ e => exact e
          | star hs hh _ => exact absurd (.inl ⟨hs, hh⟩) r.1
          | one hx _ => rw [a1] at hx; cases hx
        rw [red_uniq op' oq' rp.tail rq.tail (low rp a3) (low rq b3)]
theorem Emb.cons {p q : Pd} (x : Pc) (h : Emb p q) : Emb (x :: p) (x :: q) := by
  cases hx : isS x with
  | true => exact .star hx (holds_self x) (.skip x h)
  | false => exact .one hx h
theorem Emb.pre {p q : Pd} (a : Pd) (h : Emb p q) : Emb (a ++ p) (a ++ q) := by
  induction a with
  | nil => exact h
  | cons x a ih => exact ih.cons x
theorem Emb.post {p q : Pd} (h : Emb p q) (b : Pd) : Emb (p ++ b) (q ++ b) := by
  induction h with
  | nil q => exact (Emb.refl b).app q
  | skip y _ ih => exact .skip y ih
  | star h1 h2 _ ih => exact .star h1 h2 ih
  | one h1 _ ih => exact .one h1 ih
/-- the same texts -/
def Eqv (p q : Pd) : Prop := Emb p q ∧ Emb q p
theorem Eqv.refl (p : Pd) : Eqv p p := ⟨.refl p, .refl p⟩
theorem Eqv.symm {p q : Pd} (h : Eqv p q) : Eqv q p := ⟨h.2, h.1⟩
theorem Eqv.trans {p q r : Pd} (h : Eqv p q) (g : Eqv q r) : Eqv p r := ⟨h.1.trans g.1, g.2.trans h.2⟩
theorem Eqv.ctx {p q : Pd} (a b : Pd) (h : Eqv p q) : Eqv (a ++ p ++ b) (a ++ q ++ b) := ⟨(h.1.pre a).post b, (h.2.pre a).post b⟩
/-- a piece ahead of a star that holds it -/
theorem eqv_l {x y : Pc} (hy : isS y = true) (h : holds y x = true) : Eqv [x, y] [y] := ⟨.star hy h (.refl _), .skip x (.refl _)⟩
/-- a piece behind a star that holds it -/
theorem eqv_r {x y : Pc} (hx : isS x = true) (h : holds x y = true) : Eqv [x, y] [x] := ⟨.star hx (holds_self x) (.star hx h (.nil _)), .star hx (holds_self x) (.nil _)⟩
theorem eqv_in {p q : Pd} (h : Eqv p q) (t : List Nat) : In p t ↔ In q t := ⟨fun z => z.up h.1, fun z => z.up h.2⟩
def pops (x : Pc) : Pd → Pd
  | [] => []
  | y :: f => if isS x && holds x y then pops x f else y :: f
def push (f : Pd) (x : Pc) : Pd := match pops x f with
  | [] => [x]
  | y :: g => if isS y && holds y x then y :: g else x :: y :: g
def redOf (p : Pd) : Pd := (p.foldl push []).reverse
theorem pops_suffix (x : Pc) : ∀ f : Pd, ∃ a, f = a ++ pops x f ∧ (a ≠ [] → isS x = true) ∧ ∀ y ∈ a, holds x y = true
  | [] => ⟨[], rfl, fun h => absurd rfl h, fun y h => by cases h⟩
  | y :: f => by
    unfold pops
    split
    · rename_i h
      obtain ⟨a, e, h1, h2⟩ := pops_suffix x f
      rw [Bool.and_eq_true] at h
      exact ⟨y :: a, by rw [List.cons_append, ← e], fun _ => h.1, fun z hz => (List.mem_cons.mp hz).elim (fun w => w ▸ h.2) (h2 z)⟩
    · exact ⟨[], rfl, fun h => absurd rfl h, fun y h => by cases h⟩
theorem pops_head {x : Pc} : ∀ {f : Pd} {y : Pc} {g : Pd}, pops x f = y :: g → ¬ (isS x = true ∧ holds x y = true)
  | [], _, _, h => by cases h
  | z :: f, y, g, h => by
    unfold pops at h
    split at h
    · exact pops_head h
    · rename_i hn
      cases h
      rwa [Bool.and_eq_true] at hn
theorem idle_symm {a b : Pc} (h : idle a b) : idle b a := h.elim .inr .inl
theorem red_iff : ∀ {l : Pd}, Red l ↔ ∀ u a b v, l = u ++ a :: b :: v → ¬ idle a b
  | [] => ⟨fun _ u a b v e => by simp at e, fun _ => trivial⟩
  | [x] => ⟨fun _ u a b v e => by
      have := congrArg List.length e
      simp at this
      omega, fun _ => trivial⟩
  | x :: y :: r => by
    constructor
    · intro h u a b v e
      cases u with
      | nil => cases e; exact h.1
      | cons z u =>
        rw [List.cons_append] at e
        injection e with _ e
        exact red_iff.mp h.2 u a b v e
    · intro h
      exact ⟨h [] x y r rfl, red_iff.mpr fun u a b v e => h (x :: u) a b v (by rw [e]; rfl)⟩
theorem red_rev {l : Pd} (h : Red l) : Red l.reverse := red_iff.mpr fun u a b v e => fun z => by
  have e2 : l = v.reverse ++ b :: a :: u.reverse := by
    have := congrArg List.reverse e
    rw [List.reverse_reverse] at this
    rw [this]
    simp
  exact red_iff.mp h _ b a _ e2 (idle_symm z)
theorem red_suffix {a b : Pd} (h : Red (a ++ b)) : Red b := red_iff.mpr fun u x y v e => red_iff.mp h (a ++ u) x y v (by rw [e, List.append_assoc])
theorem push_red {f : Pd} {x : Pc} (h : Red f) : Red (push f x) := by
  obtain ⟨a, e, _, _⟩ := pops_suffix x f
  have hs : Red (pops x f) := red_suffix (a := a) (by rw [← e]; exact h)
  unfold push
  split
  · trivial
  · rename_i y g hg
    rw [hg] at hs
    split
    · exact hs
    · rename_i hn
      rw [Bool.and_eq_true] at hn
      exact ⟨fun z => z.elim (pops_head hg) hn, hs⟩
theorem absorb {x : Pc} (hx : isS x = true) : ∀ {a : Pd}, (∀ y ∈ a, holds x y = true) → Eqv (a ++ [x]) [x]
  | [], _ => .refl _
  | y :: a, h => by
    have ih := (absorb hx (a := a) fun z hz => h z (List.mem_cons_of_mem _ hz)).ctx [y] []
    simp only [List.append_nil] at ih
    exact ih.trans (eqv_l hx (h y List.mem_cons_self))
theorem push_eqv (f : Pd) (x : Pc) : Eqv (f.reverse ++ [x]) (push f x).reverse := by
  obtain ⟨a, e, h1, h2⟩ := pops_suffix x f
  have base : Eqv (f.reverse ++ [x]) ((pops x f).reverse ++ [x]) := by
    by_cases ha : a = []
    · subst ha
      rw [List.nil_append] at e
      rw [← e]
      exact .refl _
    · have z := (absorb (h1 ha) (a := a.reverse) fun y hy => h2 y (List.mem_reverse.mp hy)).ctx (pops x f).reverse []
      conv => lhs; rw [e]
      rw [List.reverse_append]
      simpa using z
  refine base.trans ?_
  unfold push
  split
  · rename_i hg; rw [hg]; exact .refl _
  · rename_i y g hg
    rw [hg]
    split
    · rename_i hh
      rw [Bool.and_eq_true] at hh
      have z := (eqv_r hh.1 hh.2).ctx g.reverse []
      simpa using z
    · rw [List.reverse_cons (a := x)]
      exact .refl _
theorem fold_red : ∀ (p f : Pd), Red f → Red (p.foldl push f) ∧ Eqv (f.reverse ++ p) (p.foldl push f).reverse
  | [], f, h => ⟨h, by rw [List.append_nil]; exact .refl _⟩
  | x :: p, f, h => by
    obtain ⟨a, b⟩ := fold_red p (push f x) (push_red h)
    refine ⟨a, Eqv.trans ?_ b⟩
    have z := (push_eqv f x).ctx [] p
    simpa using z
theorem redOf_red (p : Pd) : Red (redOf p) := red_rev (fold_red p [] trivial).1
theorem redOf_eqv (p : Pd) : Eqv p (redOf p) := (fold_red p [] trivial).2
theorem pops_mem {x y : Pc} : ∀ {f : Pd}, y ∈ pops x f → y ∈ f
  | [], h => h
  | z :: f, h => by
    unfold pops at h
    split at h
    · exact List.mem_cons_of_mem _ (pops_mem h)
    · exact h
theorem push_mem {f : Pd} {x y : Pc} (h : y ∈ push f x) : y = x ∨ y ∈ f := by
  unfold push at h
  split at h
  · exact .inl (List.mem_singleton.mp h)
  · rename_i z g hg
    split at h
    · exact .inr (pops_mem (by rw [hg]; exact h))
    · rcases List.mem_cons.mp h with h | h
      · exact .inl h
      · exact .inr (pops_mem (by rw [hg]; exact h))
theorem fold_mem : ∀ {p f : Pd} {y : Pc}, y ∈ p.foldl push f → y ∈ p ∨ y ∈ f
  | [], f, y, h => .inr h
  | x :: p, f, y, h => by
    rcases fold_mem (p := p) (f := push f x) h with h | h
    · exact .inl (List.mem_cons_of_mem _ h)
    · rcases push_mem h with h | h
      · exact .inl (h ▸ List.mem_cons_self)
      · exact .inr h
theorem redOf_mem {p : Pd} {y : Pc} (h : y ∈ redOf p) : y ∈ p := (fold_mem (List.mem_reverse.mp h)).elim id fun z => by cases z
theorem pops_len (x : Pc) : ∀ f : Pd, (pops x f).length ≤ f.length
  | [] => Nat.le_refl _
  | y :: f => by
    unfold pops
    split
    · exact Nat.le_succ_of_le (pops_len x f)
    · exact Nat.le_refl _
theorem push_len (f : Pd) (x : Pc) : (push f x).length ≤ f.length + 1 := by
  have := pops_len x f
  unfold push
  split
  · simp
  · rename_i y g hg
    rw [hg] at this
    split
    · exact Nat.le_succ_of_le this
    · rw [List.length_cons]; omega
theorem fold_len : ∀ (p f : Pd), (p.foldl push f).length ≤ f.length + p.length
  | [], f => Nat.le_refl _
  | x :: p, f => by
    have h1 := fold_len p (push f x)
    have h2 := push_len f x
    rw [List.foldl_cons, List.length_cons]
    omega
theorem redOf_len (p : Pd) : (redOf p).length ≤ p.length := by
  unfold redOf
  rw [List.length_reverse]
  have := fold_len p []
  rw [List.length_nil] at this
  omega
/-- the reduced product is THE reduced one with the same texts -/
theorem redOf_uniq {p q : Pd} (hp : ∀ x ∈ p, Ok x) (hq : ∀ x ∈ q, Ok x) (hr : Red q) (h : Eqv p q) : redOf p = q := by
  have e := (redOf_eqv p).symm.trans h
  exact red_uniq (fun x hx => hp x (redOf_mem hx)) hq (redOf_red p) hr e.1 e.2
theorem leave_eqv {u v : Pd} {x : Pc} (h : (∃ w y, u = w ++ [y] ∧ isS y = true ∧ holds y x = true) ∨ ∃ y w, v = y :: w ∧ isS y = true ∧ holds y x = true) : Eqv (u ++ x :: v) (u ++ v) := by
  rcases h with ⟨w, y, rfl, h1, h2⟩ | ⟨y, w, rfl, h1, h2⟩
  · have z := (eqv_r h1 h2).ctx w v
    simpa using z
  · have z := (eqv_l h1 h2).ctx u w
    simpa using z
def Max (S : List Pd) (p : Pd) : Prop := p ∈ S ∧ ∀ q ∈ S, q ≠ p → ¬ Emb p q
structure Good (p : Pd) : Prop where
  ok : ∀ x ∈ p, Ok x
  red : Red p
theorem redOf_good {p : Pd} (h : ∀ x ∈ p, Ok x) : Good (redOf p) := ⟨fun x hx => h x (redOf_mem hx), redOf_red p⟩
theorem good_uniq {p q : Pd} (hp : Good p) (hq : Good q) (h1 : Emb p q) (h2 : Emb q p) : p = q := red_uniq hp.ok hq.ok hp.red hq.red h1 h2
def Sub (S T : List Pd) : Prop := ∀ t, (∃ p ∈ S, In p t) → ∃ p ∈ T, In p t
theorem max_in {S T : List Pd} (hS : ∀ p ∈ S, Good p) (hT : ∀ p ∈ T, Good p) (h1 : Sub S T) (h2 : Sub T S) {p : Pd} (h : Max S p) : Max T p := by
  have up : ∀ {r : Pd}, r ∈ T → Emb p r → r = p := fun {r} hr e => by
    obtain ⟨p', hp', e'⟩ := emb_some (hT r hr).ok fun t ht => h2 t ⟨r, hr, ht⟩
    have e2 := e.trans e'
    by_cases z : p' = p
    · subst z
      exact good_uniq (hT r hr) (hS _ hp') e' e
    · exact absurd e2 (h.2 p' hp' z)
  obtain ⟨q, hq, e⟩ := emb_some (hS p h.1).ok fun t ht => h1 t ⟨p, h.1, ht⟩
  have := up hq e
  subst this
  exact ⟨hq, fun r hr hne e => hne (up hr e)⟩
theorem max_iff {S T : List Pd} (hS : ∀ p ∈ S, Good p) (hT : ∀ p ∈ T, Good p) (h1 : Sub S T) (h2 : Sub T S) (p : Pd) : Max S p ↔ Max T p := ⟨max_in hS hT h1 h2, max_in hT hS h2 h1⟩
/-- each lies within one that is kept -/
theorem under_max {S : List Pd} (hS : ∀ p ∈ S, Good p) : ∀ (n : Nat) (L : List Pd), L.length ≤ n → ∀ p ∈ S, (∀ q ∈ S, Emb p q → q ≠ p → q ∈ L) → ∃ k, Max S k ∧ Emb p k
  | n, L, hL, p, hp, h => by
    by_cases m : ∀ q ∈ S, q ≠ p → ¬ Emb p q
    · exact ⟨p, ⟨hp, m⟩, .refl p⟩
    · obtain ⟨q, hq⟩ := Classical.not_forall.mp m
      obtain ⟨hqS, hq2⟩ := Classical.not_imp.mp hq
      obtain ⟨hne, hq3⟩ := Classical.not_imp.mp hq2
      have e : Emb p q := Classical.not_not.mp hq3
      have hqL := h q hqS e hne
      clear hq m
      cases n with
      | zero => cases L with
        | nil => cases hqL
        | cons x L => simp at hL
      | succ n =>
        have hl : (L.erase q).length ≤ n := by rw [List.length_erase_of_mem hqL]; omega
        obtain ⟨k, k1, k2⟩ := under_max hS n (L.erase q) hl q hqS fun r hr er hrq => by
          have hrp : r ≠ p := fun z => by
            subst z
            exact hne (good_uniq (hS q hqS) (hS _ hr) er e)
          exact (List.mem_erase_of_ne hrq).mpr (h r hr (e.trans er) hrp)
        exact ⟨k, k1, e.trans k2⟩
theorem max_sub {S : List Pd} (hS : ∀ p ∈ S, Good p) {p : Pd} (hp : p ∈ S) : ∃ k, Max S k ∧ Emb p k := under_max hS S.length S (Nat.le_refl _) p hp fun q hq _ _ => hq
end M23
namespace Lw
open PySem PySem.Spec PyProof.Rows L3
open L2 hiding del del_same del_ne
/-- letters -/
structure Lets (sg : List Nat) : Prop where
  ne : 0 < sg.length
  few : sg.length ≤ 3
  up : sg.Pairwise (· < ·)
  az : ∀ c ∈ sg, 97 ≤ c ∧ c ≤ 122
theorem small_codes : (("abcdefghijklmnopqrstuvwxyz" : Str)).cps.toList = (List.range 26).map (· + 97) := by decide +kernel
theorem small_mem {c : Nat} (h : 97 ≤ c ∧ c ≤ 122) : c ∈ (("abcdefghijklmnopqrstuvwxyz" : Str)).cps.toList := by
  rw [small_codes]
  exact List.mem_map.mpr ⟨c - 97, List.mem_range.mpr (by omega), by omega⟩
theorem sz {n : Nat} (h : n ≤ 100000) : n ≤ sizeLine := by rw [sizeLine_eq]; omega
theorem ite_f {b : Bool} {p q : Prop} (e : b = false) (h : q) : if b = true then p else q := by rw [e]; exact h
theorem ite_t {b : Bool} {p q : Prop} (e : b = true) (h : p) : if b = true then p else q := by rw [e]; exact h
theorem u64 {k : Nat} {A : Around} (hr : Room k A) : A.units + 64 < cLine := by have := hr.units; omega
/-- rows: a list or a tuple of lists or tuples of numbers -/
def Rw (K : PySem.W.Frag) (H : Hp) (v : V) (R : List (List Nat)) : Prop := ∃ xs, Sq K H v xs ∧ xs.length = R.length ∧ ∀ (i : Nat) (x : V) (r : List Nat), xs[i]? = some x → R[i]? = some r → Sq K H x (nV r)
theorem Rw.same {K : PySem.W.Frag} {H H' : Hp} {v : V} {R : List (List Nat)} (h : Rw K H v R) (s : Same H H') : Rw K H' v R := by
  obtain ⟨xs, a, b, c⟩ := h
  exact ⟨xs, a.same s, b, fun i x r h1 h2 => (c i x r h1 h2).same s⟩
theorem ty_list {K : PySem.W.Frag} {H : Hp} {a : Addr} {xs : List V} (h : SqL K H a xs) : TyX K H (.ref a) (.type "list") := by
  rcases h with (h | ⟨o, h⟩) | ⟨o, its, n, hk, hc, _⟩
  · exact .base (.lst h)
  · exact .base (.frz h)
  · exact .kList hk hc
theorem ty_tuple {K : PySem.W.Frag} {H : Hp} {a : Addr} {xs : List V} (h : SqT K H a xs) : TyX K H (.ref a) (.type "tuple") := by
  rcases h with (h | ⟨o, h⟩) | ⟨o, its, n, hk, hc, _⟩
  · exact .base (.tup h)
  · exact .fTuple h
  · exact .kTuple hk hc
section
variable {P : Program} {w : World} {K : PySem.W.Frag} {mg : Str → Option Value} {base : Heap}
def spIsList (K : PySem.W.Frag) : Sp := fun vs H Q _ => ∃ v xs, vs = [v] ∧ Sq K H v xs ∧ ∀ H', Same H H' → Q (.bl true) H'
theorem ok_is_list (T : All K mg) : FnOk P w K mg base CX0 1 T.f_is_list T.d_is_list ["value"] (spIsList K) := by
  refine T.is_list.F.ok sc_is_list (fun vs H Q E h => ?_) (fun cdv A outer s H vs Q E hr h => ?_)
  · obtain ⟨n, xs, rfl, _⟩ := h
    rfl
  · obtain ⟨v, xs, rfl, hs, q⟩ := h
    refine ⟨_, pss_one (ps_ret (pe_callB call_isiT (by rfl) T.b_isinstance boot_isinstance (pa_cons (pv 0) (pa_cons (pe_tup (pa_cons (pe_bltn (v := .ty "list") (by rfl) T.b_list (by decide +kernel) rfl) (pa_cons (pe_bltn (v := .ty "tuple") (by rfl) T.b_tuple (by decide +kernel) rfl) pa_nil))) pa_nil)))), ?_⟩
    refine ⟨_, rfl, by show 2 ≤ sizeLine; decide, fun t nt => ?_⟩
    obtain ⟨a, rfl, hS⟩ := hs.same (same_upd (o := .tup [.ty "list", .ty "tuple"]) nt)
    rcases hS with h | h
    · exact ⟨_, t, [.ty "list", .ty "tuple"], .type "list", [.type "list", .type "tuple"], true, rfl, upd_same, .cons (.ty _) (.cons (.ty _) .nil), ty_list h, kitAny_cons (b := true) (kit_ty (by decide +kernel)) (fun z => by cases z) (fun _ => rfl), q _ (same_upd nt)⟩
    · exact ⟨_, t, [.ty "list", .ty "tuple"], .type "tuple", [.type "list", .type "tuple"], true, rfl, upd_same, .cons (.ty _) (.cons (.ty _) .nil), ty_tuple h, kitAny_cons (b := false) (kit_ty (by decide +kernel)) (fun _ => kitAny_cons (b := true) (kit_ty (by decide +kernel)) (fun z => by cases z) (fun _ => rfl)) (fun z => by cases z), q _ (same_upd nt)⟩
def spIsText : Sp := fun vs H Q _ => ∃ l, vs = [tx l] ∧ (∀ c ∈ l, 97 ≤ c ∧ c ≤ 122) ∧ l.length ≤ 1000 ∧ ∀ H', Same H H' → Q (.bl true) H'
theorem ok_is_text (T : All K mg) : FnOk P w K mg base CX0 1 T.f_is_text T.d_is_text ["value"] spIsText := by
  refine T.is_text.F.ok sc_is_text (fun vs H Q E h => ?_) (fun cdv A outer s H vs Q E hr h => ?_)
  · obtain ⟨l, rfl, _⟩ := h
    rfl
  · obtain ⟨l, rfl, hl, hz, q⟩ := h
    obtain ⟨ts, hSMALL_basics⟩ := T.c_SMALL_basics
    refine ⟨_, pss_one (ps_ret (pe_and (pe_callB call_isi (by rfl) T.b_isinstance boot_isinstance (pa_cons (pv 0) (pa_cons (pe_bltn (v := .ty "str") (by rfl) T.b_str (by decide +kernel) rfl) pa_nil)))
        (pe_one (pe_callB (cr_all rfl) (by rfl) T.b_all PyProof.Rows.boot_all (pa_cons (pe_lc (own := [("sign", 1)]) (g := gName 1) (tt := tYes) rfl sc_is_text.nd (pi_str (pv 0))
          (blkOk_by (own := [("sign", 1)]) (N := ["value", "sign"]) (sc := defScope s_is_text) (by decide +kernel))
          (fun _ _ _ _ _ => pg_name (i := 1) sc_is_text.nd rfl (by first | exact Or.inl rfl | exact Or.inr rfl)) (fun _ _ _ _ _ => pts_nil)
          (fun _ _ _ _ _ => (pe_cmpR op_in_sign (pv 1) (pe_glob (v := .str "abcdefghijklmnopqrstuvwxyz") rfl hSMALL_basics ⟨_, rfl⟩) (by rfl)))) pa_nil))))), ?_⟩
    refine ⟨tx l, rfl, tx l, .ty "str", .type "str", .type "str", true, rfl, .ty _, .base (.str _), kit_ty (by decide +kernel), true, rfl, iteT ?_⟩
    refine ⟨tx l, rfl, tS l, rfl, fun D nD => ?_⟩
    refine lc_gen walk_tx (Same H) (fun i acc => acc = List.replicate i (.bl true)) (sz (by omega)) (fun i acc e => by rw [e]; simp) rfl (same_upd nD) (fun _ _ h => same_up h nD) (fun _ _ => trivial) (fun i x H2 H3 acc C N hi r hD ha y c n => ?_) (fun H2 xs r hD ha => ?_)
    · obtain ⟨rfl, ch, hc, rfl⟩ := y
      refine ⟨rfl, yes_te ?_⟩
      refine ⟨_, rfl, ch, _, rfl, rfl, ?_⟩
      rw [decide_eq_true (small_mem (hl ch (List.mem_of_getElem? hc)))]
      exact c _ _ r hD (by rw [ha, List.replicate_succ'])
    · refine ⟨D, List.replicate l.length true, rfl, .inl (.inl ?_), ?_⟩
      · rw [hD, ha]
        simp
      · have e : (List.replicate l.length true).all id = true := by simp
        rw [e]
        exact q _ r
theorem sort_lets {sg : List Nat} (up : sg.Pairwise (· < ·)) {L : List (List Nat)} (hp : L.Perm (lets sg)) (hs : L.Pairwise (· < ·)) : L = sg.map fun c => [c] := by
  have h2 : (sg.map fun c => [c]).Pairwise (· < ·) := by
    rw [List.pairwise_map]
    refine up.imp fun h => ?_
    exact List.cons_lt_cons_iff.mpr (.inl h)
  have hn1 : L.Nodup := hs.imp fun h e => by subst e; exact absurd h (List.lt_irrefl _)
  have hn2 : (sg.map fun c => [c]).Nodup := h2.imp fun h e => by subst e; exact absurd h (List.lt_irrefl _)
  have hp2 : L.Perm (sg.map fun c => [c]) := by
    refine (List.perm_ext_iff_of_nodup hn1 hn2).mpr fun x => ?_
    rw [hp.mem_iff, lets_mem, List.mem_map]
    exact ⟨fun ⟨c, h1, h2⟩ => ⟨c, h1, h2.symm⟩, fun ⟨c, h1, h2⟩ => ⟨c, h1, h2.symm⟩⟩
  exact hp2.eq_of_pairwise (fun a b _ _ h1 h2 => absurd (List.lt_trans h1 h2) (List.lt_irrefl _)) hs h2
def spAreLetters : Sp := fun vs H Q _ => ∃ sg, vs = [tx sg] ∧ Lets sg ∧ ∀ H', Same H H' → Q (.bl true) H'
theorem ok_are_letters (T : All K mg) : FnOk P w K mg base CX0 2 T.f_are_letters T.d_are_letters ["value"] spAreLetters := by
  refine T.are_letters.F.ok sc_are_letters (fun vs H Q E h => ?_) (fun cdv A outer s H vs Q E hr h => ?_)
  · obtain ⟨l, rfl, _⟩ := h
    rfl
  · obtain ⟨sg, rfl, hl, q⟩ := h
    obtain ⟨ts, hMOST_LETTERS⟩ := T.c_MOST_LETTERS
    have hz : sg.length ≤ sizeLine := sz (by have := hl.few; omega)
    refine ⟨_, pss_cons (ps_if (PW.pt (pw_or (pt_not (pt_val (pe_call (ok_is_text T) (hr.mono (by decide)) (by rfl) T.is_text.g T.is_text.F.kp T.is_text.b .nil pass0 (pa_cons (pv 0) pa_nil)))) (pw_or1 (pt_not (pt_chain op_le op_le pe_int (pe_callB call_lenT (by rfl) T.b_len PySem.boot_len (pa_cons (pv 0) pa_nil)) (pe_glob (v := .int 3) rfl hMOST_LETTERS ⟨_, rfl⟩)))))) (pss_one (ps_ret pe_bl)) pss_nil)
      (pss_one (ps_ret (pe_cmpR (op_eqD (u64 hr)) (pe_callTy (call_listT rfl) (by rfl) T.b_list PyProof.Rows.boot_list (pa_cons (pv 0) pa_nil)) (pe_callB (cr_sortSetT rfl) (by rfl) T.b_sorted PyProof.Rows.boot_sorted (pa_cons (pe_callTy (cr_setT rfl) (by rfl) T.b_set (show bootBuiltins "set" = some (.type "set") by decide +kernel) (pa_cons (pv 0) pa_nil)) pa_nil)) (by rfl)))), ?_⟩
    refine ⟨_, rfl, sg, rfl, hl.az, by have := hl.few; omega, fun H1 s1 => ?_⟩
    refine ⟨true, rfl, iteF ?_⟩
    have e1 : decide ((1 : Int) ≤ (sg.length : Int)) = true := decide_eq_true (by have := hl.ne; omega)
    have e2 : decide ((sg.length : Int) ≤ 3) = true := decide_eq_true (by have := hl.few; omega)
    refine ⟨_, rfl, sg, rfl, hz, _, _, rfl, rfl, _, rfl, ?_⟩
    rw [e1]
    refine iteT ⟨_, _, rfl, rfl, true, congrArg V.bl e2, iteF ?_⟩
    refine ⟨_, rfl, sg, rfl, hz, fun p np => ?_⟩
    refine ⟨_, rfl, sg, rfl, by have := hl.few; omega, fun p2 np2 => ?_⟩
    refine ⟨p2, _, rfl, upd_same, fun L p3 hp hs np3 => ?_⟩
    have eL := sort_lets hl.up hp hs
    subst eL
    have s2 := same_up (o := .lst (sg.map fun c => tx [c])) s1 (s1.free np)
    have n1 : p ≠ p2 := fun e => by subst e; rw [upd_same] at np2; cases np2
    have n2 : p ≠ p3 := fun e => by subst e; rw [upd_ne n1, upd_same] at np3; cases np3
    have w : ∀ d ∈ dTx (sg.map fun c => [c]), Wt d 1 0 := fun d hd => by
      unfold dTx at hd
      rw [List.map_map] at hd
      obtain ⟨c, hc, rfl⟩ := List.mem_map.mp hd
      refine Wt.text (fun x hx => ?_) (by simp)
      rw [List.mem_singleton.mp hx]
      have := hl.az c hc
      omega
    have sh := (Wt.list w (Nat.le_refl _)).shaped (by decide)
    refine ⟨.list (dTx (sg.map fun c => [c])), .list (dTx (sg.map fun c => [c])), .lst (xs := (sg.map fun c => [c]).map tx) (.inl (.inl ?_)) (dp_txs _), .lst (xs := (sg.map fun c => [c]).map tx) (.inl (.inl upd_same)) (dp_txs _), sh, sh, ?_⟩
    · rw [upd_ne n2, upd_ne n1, upd_same, List.map_map]
      rfl
    · have e : PyData.eqv (.list (dTx (sg.map fun c => [c]))) (.list (dTx (sg.map fun c => [c]))) = true := by
        show PyData.eqvAll _ _ = true
        unfold dTx
        rw [eqv_map (α := List Nat) _ (fun a b => ?_) _ _]
        · exact decide_eq_true rfl
        · show (tS a == tS b) = _
          by_cases h : a = b
          · subst h; simp
          · rw [decide_eq_false h]; exact beq_eq_false_iff_ne.mpr fun z => h (tS_inj z)
      rw [e]
      refine q _ (same_up (same_up s2 ?_) ?_)
      · exact s2.free np2
      · exact (same_up s2 (s2.free np2)).free np3
def spWantFew : Sp := fun vs H Q _ => ∃ (x : V) (m n : Int), vs = [x, .int m, .int n] ∧ m ≤ n ∧ Q .non H
theorem ok_want_few (T : All K mg) : FnOk P w K mg base CX0 1 T.f_want_few T.d_want_few ["what", "many", "limit"] spWantFew := by
  refine T.want_few.F.ok sc_want_few (fun vs H Q E h => ?_) (fun cdv A outer s H vs Q E hr h => ?_)
  · obtain ⟨x, m, n, rfl, _⟩ := h
    rfl
  · obtain ⟨x, m, n, rfl, hmn, q⟩ := h
    refine ⟨_, pss_one (ps_if (pt_cmpR op_gt (pv 1) (pv 2) (nomark _)) (pss_one ps_never) pss_nil), ?_⟩
    refine ⟨_, rfl, _, rfl, m, n, rfl, rfl, _, rfl, ite2 (fun e => ?_) (fun e => q)⟩
    have := of_decide_eq_true e
    show False
    omega
def spTextOver (K : PySem.W.Frag) : Sp := fun vs H Q _ => ∃ sg v, vs = [tx sg, v] ∧ ((∃ t, v = tx t ∧ t.length ≤ 2000 ∧ ∀ H', Same H H' → Q (.bl (t.all fun c => decide (c ∈ sg))) H') ∨ (∃ ty, TyX K H v ty ∧ PySem.W.kitOne K ty (.type "str") = some false ∧ Q (.bl false) H))
theorem ok_is_text_over (T : All K mg) : FnOk P w K mg base CX0 1 T.f_is_text_over T.d_is_text_over ["letters", "value"] (spTextOver K) := by
  refine T.is_text_over.F.ok sc_is_text_over (fun vs H Q E h => ?_) (fun cdv A outer s H vs Q E hr h => ?_)
  · obtain ⟨l, v, rfl, _⟩ := h
    rfl
  · obtain ⟨sg, v, rfl, h⟩ := h
    refine ⟨_, pss_one (ps_ret (pe_and (pe_callB call_isi (by rfl) T.b_isinstance boot_isinstance (pa_cons (pv 1) (pa_cons (pe_bltn (v := .ty "str") (by rfl) T.b_str (by decide +kernel) rfl) pa_nil)))
        (pe_one (pe_callB (cr_all rfl) (by rfl) T.b_all PyProof.Rows.boot_all (pa_cons (pe_lc (own := [("sign", 2)]) (g := gName 2) (tt := tYes) rfl sc_is_text_over.nd (pi_str (pv 1))
          (blkOk_by (own := [("sign", 2)]) (N := ["letters", "value", "sign"]) (sc := defScope s_is_text_over) (by decide +kernel))
          (fun _ _ _ _ _ => pg_name (i := 2) sc_is_text_over.nd rfl (by first | exact Or.inl rfl | exact Or.inr rfl)) (fun _ _ _ _ _ => pts_nil)
          (fun _ _ _ _ _ => (pe_cmpR op_in_sign (pv 2) (pv 0) (by rfl)))) pa_nil))))), ?_⟩
    rcases h with ⟨t, rfl, hz, q⟩ | ⟨ty, hty, hk, q⟩
    · refine ⟨tx t, rfl, tx t, .ty "str", .type "str", .type "str", true, rfl, .ty _, .base (.str _), kit_ty (by decide +kernel), true, rfl, iteT ?_⟩
      refine ⟨tx t, rfl, tS t, rfl, fun D nD => ?_⟩
      refine lc_gen walk_tx (Same H) (fun i acc => acc = ((t.take i).map fun c => decide (c ∈ sg)).map V.bl) (sz (by omega)) (fun i acc e => by rw [e]; simp; omega) rfl (same_upd nD) (fun _ _ h => same_up h nD) (fun _ _ => trivial) (fun i x H2 H3 acc C N hi r hD ha y c n => ?_) (fun H2 xs r hD ha => ?_)
      · obtain ⟨rfl, ch, hc, rfl⟩ := y
        refine ⟨rfl, yes_te ?_⟩
        refine ⟨_, rfl, _, rfl, ch, tS sg, rfl, rfl, ?_⟩
        refine c _ _ r hD ?_
        rw [ha, List.take_add_one, hc]
        simp [tS]
      · subst ha
        rw [List.take_length] at hD
        refine ⟨D, t.map fun c => decide (c ∈ sg), rfl, .inl (.inl hD), ?_⟩
        have e : (t.map fun c => decide (c ∈ sg)).all id = t.all fun c => decide (c ∈ sg) := by rw [List.all_map]; rfl
        rw [e]
        exact q _ r
    · refine ⟨v, rfl, v, .ty "str", ty, .type "str", false, rfl, .ty _, hty, hk, false, rfl, iteF q⟩
end
end Lw
namespace L3
open PySem PySem.Spec PyProof.Rows L2
theorem sIx_neg (n d : Nat) : HT.sIx n d (some (-1)) = n - 1 := by
  unfold HT.sIx
  cases n with
  | zero => simp
  | succ n => simp <;> omega
theorem cut_but (l : List Nat) : cutS (tS l) none (some (-1)) = tS l.dropLast := by
  unfold cutS
  rw [HT.sIx_none, sIx_neg, tS_len]
  show tS _ = _
  congr 1
  show (List.drop 0 l).take (l.length - 1 - 0) = l.dropLast
  rw [List.drop_zero, Nat.sub_zero, List.dropLast_eq_take]
theorem cut_last (l : List Nat) : cutS (tS l) (some (-1)) none = tS (l.drop (l.length - 1)) := by
  unfold cutS
  rw [HT.sIx_none, sIx_neg, tS_len]
  show tS _ = _
  congr 1
  show (List.drop (l.length - 1) l).take (l.length - (l.length - 1)) = _
  rw [List.take_of_length_le (by rw [List.length_drop]; exact Nat.le_refl _)]
def rSlN : V → Option Int → Option Int → Hp → VK → Prop := fun x lo hi H Q => ∃ l, x = tx l ∧ l.length ≤ sizeLine ∧
  ((lo = none ∧ hi = some (-1) ∧ Q (tx l.dropLast) H) ∨ (hi = none ∧ lo = some (-1) ∧ Q (tx (l.drop (l.length - 1))) H))
theorem sl_txN {X : Cx} : SlR X rSlN := by
  intro pins s σ H x v vl vu lo hi sl Q I rx hs pl pu h
  obtain ⟨l, rfl, hz, h⟩ := h
  refine sl_str pins s σ H _ v vl vu lo hi sl Q I rx hs pl pu ⟨_, rfl, by rw [tS_len]; exact hz, ?_⟩
  rcases h with ⟨rfl, rfl, q⟩ | ⟨rfl, rfl, q⟩
  · rw [cut_but]; exact q
  · rw [cut_last]; exact q
end L3
namespace L3
open PySem PySem.Spec PyProof.Rows L2
section
variable {J : It} {n : Nat} {G : Hp → Prop} {Y : Nat → Hp → V → Hp → Prop}
theorem lc2_it (w : Walk J n G Y) {g : TG} {tt : TT} {wi1 : TI} {vs : List Nat} {σ : L2.St} {H1 : Hp} {D : Addr} {Qd : Hp → Prop} {IN : L2.St → (Hp → Prop) → It → Hp → Prop} (Pv : Nat → Hp → Prop) (h0 : Pv 0 (upd H1 D (.lst []))) (hG : ∀ i H, i ≤ n → Pv i H → G H)
    (hs : ∀ i x H H', i < n → Pv i H → Y i H x H' → g x (wipe σ vs) H' fun σ2 H2 => wipe σ2 vs = wipe σ vs ∧ tt σ2 H2 fun b H3 =>
      if b = true then wi1 σ2 H3 fun J1 H4 => IN σ2 (Pv (i + 1)) J1 H4 else Pv (i + 1) H3) (hd : ∀ H, Pv n H → Qd H) :
    ∃ W : Nat → Nat → Hp → Prop, (∃ m, W 0 m (upd H1 D (.lst []))) ∧ ∀ i m H, W i m H →
      (J.stop i H ∧ Qd H) ∨ (J.go i H ∧ ∃ Nx : Hp → Prop, (∀ H', Nx H' → ∃ m', m' < m ∧ W (i + 1) m' H') ∧ ∀ x H', J.yld i H x H' → g x (wipe σ vs) H' fun σ2 H2 => wipe σ2 vs = wipe σ vs ∧ tt σ2 H2 fun b H3 =>
        if b = true then wi1 σ2 H3 fun J1 H4 => IN σ2 Nx J1 H4 else Nx H3) := by
  refine ⟨fun i m H => m = n - i ∧ i ≤ n ∧ Pv i H, ⟨n, by simp, Nat.zero_le _, h0⟩, ?_⟩
  rintro i m H ⟨rfl, hi, p⟩
  have q := hG i H hi p
  by_cases hlt : i < n
  · refine .inr ⟨w.goes i H hlt q, Pv (i + 1), fun H' p' => ⟨n - (i + 1), by omega, rfl, hlt, p'⟩, fun x H' y => hs i x H H' hlt p (w.yields i H x H' hlt q y)⟩
  · have e : i = n := by omega
    subst e
    exact .inl ⟨w.stops H q, hd H p⟩
theorem lc2_in (w : Walk J n G Y) {g1 : TG} {tt1 : TT} {te : TE} {vs1 : List Nat} {σ2 : L2.St} {H4 : Hp} {D : Addr} {Nx : Hp → Prop} (Pv : Nat → Hp → Prop) (h0 : Pv 0 H4) (hG : ∀ i H, i ≤ n → Pv i H → G H)
    (hs : ∀ j x H H', j < n → Pv j H → Y j H x H' → g1 x (wipe σ2 vs1) H' fun σ3 H5 => wipe σ3 vs1 = wipe σ2 vs1 ∧ tt1 σ3 H5 fun b H6 =>
      if b = true then te σ3 H6 fun y H7 => ∃ acc, H7 D = some (.lst acc) ∧ acc.length < sizeLine ∧ Pv (j + 1) (upd H7 D (.lst (acc ++ [y]))) else Pv (j + 1) H6) (hd : ∀ H, Pv n H → Nx H) :
    ∃ W1 : Nat → Nat → Hp → Prop, (∃ m, W1 0 m H4) ∧ ∀ j k H, W1 j k H →
      (J.stop j H ∧ Nx H) ∨ (J.go j H ∧ ∃ Nx1 : Hp → Prop, (∀ H', Nx1 H' → ∃ k', k' < k ∧ W1 (j + 1) k' H') ∧ ∀ x H', J.yld j H x H' → g1 x (wipe σ2 vs1) H' fun σ3 H5 => wipe σ3 vs1 = wipe σ2 vs1 ∧ tt1 σ3 H5 fun b H6 =>
        if b = true then te σ3 H6 fun y H7 => ∃ acc, H7 D = some (.lst acc) ∧ acc.length < sizeLine ∧ Nx1 (upd H7 D (.lst (acc ++ [y]))) else Nx1 H6) := by
  refine ⟨fun i m H => m = n - i ∧ i ≤ n ∧ Pv i H, ⟨n, by simp, Nat.zero_le _, h0⟩, ?_⟩
  rintro i m H ⟨rfl, hi, p⟩
  have q := hG i H hi p
  by_cases hlt : i < n
  · refine .inr ⟨w.goes i H hlt q, Pv (i + 1), fun H' p' => ⟨n - (i + 1), by omega, rfl, hlt, p'⟩, fun x H' y => hs i x H H' hlt p (w.yields i H x H' hlt q y)⟩
  · have e : i = n := by omega
    subst e
    exact .inl ⟨w.stops H q, hd H p⟩
end
end L3
namespace M23
open PySem PySem.Spec PyProof.Rows L2 L3
open PySem.W (dataLe dataLt keyToks keyToksAll alike)
open PyProof.Rows (itemOrd)
/-- a product as texts -/
def sS (p : Pd) : List Str := p.map tS
theorem sS_inj {p q : Pd} (h : sS p = sS q) : p = q := (List.map_inj_right (fun x y h => tS_inj h)).mp h
def dP (p : Pd) : PyData := dS (sS p)
def ple (a b : Pd) : Bool := dataLe false dP a b
theorem ple_eq (a b : Pd) : ple a b = !dataLt (dP b) (dP a) := rfl
theorem toks_inj : ∀ {k l : List Str}, keyToksAll (k.map .str) = keyToksAll (l.map .str) → k = l
  | [], [], _ => rfl
  | [], y :: l, h => by
    rw [List.map_cons, PySem.W.toks_all_cons, List.map_nil, keyToksAll] at h
    simp at h
  | x :: k, [], h => by
    rw [List.map_cons, PySem.W.toks_all_cons, List.map_nil, keyToksAll] at h
    simp at h
  | x :: k, y :: l, h => by
    rw [List.map_cons, List.map_cons, PySem.W.toks_all_cons, PySem.W.toks_all_cons] at h
    injection h with _ h
    have e : ∀ z : Str, keyToks (.str z) = [Sum.inr z.cps.toList] := fun z => by rw [keyToks]
    rw [e, e] at h
    injection h with h1 h2
    rw [toks_inj h2, PySem.W.str_of_cps (Sum.inr.inj h1)]
theorem ple_total (a b : Pd) : (ple a b || ple b a) = true := by
  rw [ple_eq, ple_eq]
  cases h1 : dataLt (dP b) (dP a) with
  | false => rfl
  | true =>
    cases h2 : dataLt (dP a) (dP b) with
    | false => rfl
    | true =>
      have := PyProof.Rows.lex_trans (O := itemOrd) _ _ _ h1 h2
      rw [PyProof.Rows.lex_irrefl] at this
      cases this
theorem ple_trans (a b c : Pd) (h1 : ple a b = true) (h2 : ple b c = true) : ple a c = true := by
  rw [ple_eq, Bool.not_eq_true'] at h1 h2 ⊢
  cases h : dataLt (dP c) (dP a) with
  | false => rfl
  | true =>
    rcases PyProof.Rows.lex_negTrans (O := itemOrd) _ (keyToks (dP b)) _ h with g | g
    · exact absurd (show dataLt (dP c) (dP b) = true from g) (by rw [h2]; decide)
    · exact absurd (show dataLt (dP b) (dP a) = true from g) (by rw [h1]; decide)
theorem ple_anti {a b : Pd} (h1 : ple a b = true) (h2 : ple b a = true) : a = b := by
  rw [ple_eq, Bool.not_eq_true'] at h1 h2
  have e : keyToks (dP a) = keyToks (dP b) := PyProof.Rows.lex_total (O := itemOrd) _ _ h2 h1
  refine sS_inj (toks_inj ?_)
  unfold dP dS at e
  simpa [keyToks] using e
theorem sorted_uniq {l m : List Pd} (p : l.Perm m) (h1 : l.Pairwise fun a b => ple a b = true) (h2 : m.Pairwise fun a b => ple a b = true) : l = m :=
  p.eq_of_pairwise (fun a b _ _ x y => ple_anti x y) h1 h2
theorem sorted_sort (l : List Pd) : (l.mergeSort ple).Pairwise fun a b => ple a b = true := List.pairwise_mergeSort ple_trans ple_total l
/-- each once -/
def ded : List Pd → List Pd
  | [] => []
  | x :: l => if x ∈ l then ded l else x :: ded l
theorem ded_mem {x : Pd} : ∀ {l : List Pd}, x ∈ ded l ↔ x ∈ l
  | [] => Iff.rfl
  | y :: l => by
    unfold ded
    split
    · rename_i h
      rw [ded_mem (l := l), List.mem_cons]
      exact ⟨.inr, fun z => z.elim (fun e => e ▸ h) id⟩
    · rw [List.mem_cons, List.mem_cons, ded_mem (l := l)]
theorem ded_nodup : ∀ l : List Pd, (ded l).Nodup
  | [] => List.nodup_nil
  | y :: l => by
    unfold ded
    split
    · exact ded_nodup l
    · rename_i h
      exact List.nodup_cons.mpr ⟨fun z => h (ded_mem.mp z), ded_nodup l⟩
/-- the members, each once, in order -/
def canon (S : List Pd) : List Pd := (ded S).mergeSort ple
theorem canon_mem {x : Pd} {S : List Pd} : x ∈ canon S ↔ x ∈ S := by unfold canon; rw [(List.mergeSort_perm _ _).mem_iff, ded_mem]
theorem canon_nodup (S : List Pd) : (canon S).Nodup := (List.mergeSort_perm _ _).nodup_iff.mpr (ded_nodup S)
theorem canon_sorted (S : List Pd) : (canon S).Pairwise fun a b => ple a b = true := sorted_sort _
theorem canon_uniq {S L : List Pd} (hn : L.Nodup) (hs : L.Pairwise fun a b => ple a b = true) (hm : ∀ x, x ∈ L ↔ x ∈ S) : L = canon S :=
  sorted_uniq ((List.perm_ext_iff_of_nodup hn (canon_nodup S)).mpr fun x => by rw [hm, canon_mem]) hs (canon_sorted S)
theorem ded_len : ∀ l : List Pd, (ded l).length ≤ l.length
  | [] => Nat.le_refl _
  | y :: l => by
    have := ded_len l
    unfold ded
    split
    · rw [List.length_cons]; omega
    · rw [List.length_cons, List.length_cons]; omega
theorem canon_len (S : List Pd) : (canon S).length ≤ S.length := by unfold canon; rw [List.length_mergeSort]; exact ded_len S
/-- what is kept of reduced products -/
def maxs (S : List Pd) : List Pd := (canon S).filter fun p => decide (∀ q ∈ canon S, q ≠ p → run q p = none)
def kept (ps : List Pd) : List Pd := maxs (ps.map redOf)
theorem none_iff {p q : Pd} : run q p = none ↔ ¬ Emb p q := by
  rw [← run_emb]
  cases run q p <;> simp
theorem maxs_mem {S : List Pd} {p : Pd} : p ∈ maxs S ↔ Max S p := by
  unfold maxs
  rw [List.mem_filter, decide_eq_true_iff, canon_mem]
  exact and_congr_right fun _ => ⟨fun h q hq hne => none_iff.mp (h q (canon_mem.mpr hq) hne), fun h q hq hne => none_iff.mpr (h q (canon_mem.mp hq) hne)⟩
theorem maxs_eq {S T : List Pd} (h : ∀ p, Max S p ↔ Max T p) : maxs S = maxs T := by
  have sn : ∀ U : List Pd, (maxs U).Nodup := fun U => (canon_nodup U).filter _
  have ss : ∀ U : List Pd, (maxs U).Pairwise fun a b => ple a b = true := fun U => (canon_sorted U).filter _
  exact sorted_uniq ((List.perm_ext_iff_of_nodup (sn S) (sn T)).mpr fun p => by rw [maxs_mem, maxs_mem]; exact h p) (ss S) (ss T)
end M23
namespace M23
def pbG : Pd → Nat → Pc → Option Nat
  | [], _, _ => none
  | y :: r, k, x => if holds y x then some (if isS y then k else k + 1) else pbG r (k + 1) x
/-- how far one is behind x -/
def pb (q : Pd) (i : Nat) (x : Pc) : Option Nat := pbG (q.drop i) i x
def runI (q : Pd) (i : Nat) : Pd → Option Nat
  | [] => some i
  | x :: p => (pb q i x).bind fun k => runI q k p
/-- as a number -/
def enc : Option Nat → Int
  | none => -1
  | some k => (k : Int)
theorem enc_inj : ∀ {a b : Option Nat}, enc a = enc b → a = b
  | none, none, _ => rfl
  | none, some k, h => by have h : (-1 : Int) = (k : Int) := h; omega
  | some k, none, h => by have h : (k : Int) = -1 := h; omega
  | some j, some k, h => by have h : (j : Int) = (k : Int) := h; rw [Int.ofNat.inj h]
theorem enc_lost : ∀ {a : Option Nat}, enc a = -1 ↔ a = none
  | none => ⟨fun _ => rfl, fun _ => rfl⟩
  | some k => ⟨fun h => by have h : (k : Int) = -1 := h; omega, fun h => by cases h⟩
theorem pbG_step {q : Pd} : ∀ {r : Pd} {k : Nat} {x : Pc}, q.drop k = r → step r x = (pbG r k x).map fun j => q.drop j
  | [], k, x, _ => rfl
  | y :: r, k, x, h => by
    have h2 : q.drop (k + 1) = r := by rw [← List.drop_drop, h]; rfl
    unfold step pbG
    split
    · split
      · rw [Option.map_some, h]
      · rw [Option.map_some, h2]
    · exact pbG_step h2
theorem step_pb (q : Pd) (i : Nat) (x : Pc) : step (q.drop i) x = (pb q i x).map fun j => q.drop j := pbG_step rfl
theorem run_runI (q : Pd) : ∀ (p : Pd) (i : Nat), run (q.drop i) p = (runI q i p).map fun j => q.drop j
  | [], i => rfl
  | x :: p, i => by
    show (step (q.drop i) x).bind _ = ((pb q i x).bind _).map _
    rw [step_pb]
    cases pb q i x with
    | none => rfl
    | some k => exact run_runI q p k
theorem runI_some {q p : Pd} : (runI q 0 p).isSome = true ↔ Emb p q := by
  rw [← run_emb]
  have := run_runI q p 0
  rw [List.drop_zero] at this
  rw [this, Option.isSome_map]
theorem pbG_le : ∀ {r : Pd} {k j : Nat} {x : Pc}, pbG r k x = some j → k ≤ j ∧ j ≤ k + r.length
  | [], _, _, _, h => by cases h
  | y :: r, k, j, x, h => by
    unfold pbG at h
    split at h
    · cases h
      rw [List.length_cons]
      split <;> omega
    · have := pbG_le h
      rw [List.length_cons]
      omega
theorem pb_le {q : Pd} {i j : Nat} {x : Pc} (h : pb q i x = some j) (hi : i ≤ q.length) : i ≤ j ∧ j ≤ q.length := by
  have := pbG_le h
  rw [List.length_drop] at this
  omega
theorem pb_none {q : Pd} {x : Pc} : ∀ (n i : Nat), q.length - i = n → (∀ j y, i ≤ j → q[j]? = some y → holds y x = false) → pb q i x = none
  | 0, i, hn, _ => by
    unfold pb
    rw [List.drop_of_length_le (by omega)]
    rfl
  | n + 1, i, hn, h => by
    have hi : i < q.length := by omega
    have e : q.drop i = q[i] :: q.drop (i + 1) := List.drop_eq_getElem_cons hi
    unfold pb
    rw [e]
    unfold pbG
    rw [h i q[i] (Nat.le_refl _) (List.getElem?_eq_getElem hi), if_neg (by decide)]
    exact pb_none n (i + 1) (by omega) fun j y hj hy => h j y (by omega) hy
theorem pb_found {q : Pd} {x y : Pc} {k : Nat} (hk : q[k]? = some y) (hh : holds y x = true) : ∀ (n i : Nat), k - i = n → i ≤ k → (∀ j y, i ≤ j → j < k → q[j]? = some y → holds y x = false) → pb q i x = some (if isS y then k else k + 1)
  | 0, i, hn, hi, _ => by
    obtain rfl : i = k := by omega
    have hl := (List.getElem?_eq_some_iff.mp hk)
    obtain ⟨hl, e1⟩ := hl
    have e : q.drop i = q[i] :: q.drop (i + 1) := List.drop_eq_getElem_cons hl
    unfold pb
    rw [e, e1]
    unfold pbG
    rw [if_pos hh]
  | n + 1, i, hn, hi, h => by
    obtain ⟨hl, _⟩ := List.getElem?_eq_some_iff.mp hk
    have hi' : i < q.length := by omega
    have e : q.drop i = q[i] :: q.drop (i + 1) := List.drop_eq_getElem_cons hi'
    have := pb_found hk hh n (i + 1) (by omega) (by omega) fun j y hj hjk hy => h j y (by omega) hjk hy
    unfold pb
    rw [e]
    unfold pbG
    rw [h i q[i] (Nat.le_refl _) (by omega) (List.getElem?_eq_getElem hi'), if_neg (by decide)]
    exact this
theorem runI_append (q : Pd) : ∀ (a : Pd) (i : Nat) (b : Pd), runI q i (a ++ b) = (runI q i a).bind fun k => runI q k b
  | [], _, _ => rfl
  | x :: a, i, b => by
    show (pb q i x).bind _ = ((pb q i x).bind _).bind _
    cases pb q i x with
    | none => rfl
    | some k => exact runI_append q a k b
theorem runI_le {q : Pd} : ∀ {p : Pd} {i j : Nat}, i ≤ q.length → runI q i p = some j → j ≤ q.length
  | [], i, j, h, e => by cases e; exact h
  | x :: p, i, j, h, e => by
    unfold runI at e
    cases hp : pb q i x with
    | none => rw [hp] at e; cases e
    | some k => rw [hp] at e; exact runI_le (pb_le hp h).2 e
/-- t is one of the texts of some of the products -/
def InS (ps : List Pd) (t : List Nat) : Prop := ∃ p ∈ ps, In p t
def AllOk (ps : List Pd) : Prop := ∀ p ∈ ps, ∀ x ∈ p, Ok x
theorem red_good {ps : List Pd} (h : AllOk ps) : ∀ p ∈ ps.map redOf, Good p := fun p hp => by
  obtain ⟨q, hq, rfl⟩ := List.mem_map.mp hp
  exact redOf_good (h q hq)
theorem inS_red {ps : List Pd} {t : List Nat} : InS (ps.map redOf) t ↔ InS ps t := by
  constructor
  · rintro ⟨p, hp, h⟩
    obtain ⟨q, hq, rfl⟩ := List.mem_map.mp hp
    exact ⟨q, hq, (eqv_in (redOf_eqv q) t).mpr h⟩
  · rintro ⟨p, hp, h⟩
    exact ⟨_, List.mem_map.mpr ⟨p, hp, rfl⟩, (eqv_in (redOf_eqv p) t).mp h⟩
theorem inS_maxs {S : List Pd} (h : ∀ p ∈ S, Good p) {t : List Nat} : InS (maxs S) t ↔ InS S t := by
  constructor
  · rintro ⟨p, hp, g⟩
    exact ⟨p, (maxs_mem.mp hp).1, g⟩
  · rintro ⟨p, hp, g⟩
    obtain ⟨k, k1, k2⟩ := max_sub h hp
    exact ⟨k, maxs_mem.mpr k1, g.up k2⟩
theorem inS_kept {ps : List Pd} (h : AllOk ps) {t : List Nat} : InS (kept ps) t ↔ InS ps t := (inS_maxs (red_good h)).trans inS_red
theorem kept_mem {ps : List Pd} {p : Pd} (h : p ∈ kept ps) : ∃ q ∈ ps, p = redOf q := by
  obtain ⟨q, hq, e⟩ := List.mem_map.mp (maxs_mem.mp h).1
  exact ⟨q, hq, e.symm⟩
theorem kept_good {ps : List Pd} (h : AllOk ps) : ∀ p ∈ kept ps, Good p := fun p hp => red_good h p (maxs_mem.mp hp).1
theorem kept_len (ps : List Pd) : (kept ps).length ≤ ps.length := by
  have h1 := List.length_filter_le (fun p => decide (∀ q ∈ canon (ps.map redOf), q ≠ p → run q p = none)) (canon (ps.map redOf))
  have h2 := canon_len (ps.map redOf)
  rw [List.length_map] at h2
  exact Nat.le_trans h1 h2
/-- the same texts, the same kept -/
theorem kept_eq {ps qs : List Pd} (hp : AllOk ps) (hq : AllOk qs) (h : ∀ t, InS ps t ↔ InS qs t) : kept ps = kept qs :=
  maxs_eq (max_iff (red_good hp) (red_good hq) (fun t ht => inS_red.mpr ((h t).mp (inS_red.mp ht))) (fun t ht => inS_red.mpr ((h t).mpr (inS_red.mp ht))))
theorem red_self {p : Pd} (h : Good p) : redOf p = p := redOf_uniq h.ok h.ok h.red (.refl p)
/-- the texts tell the kept apart -/
theorem kept_iff {ps qs : List Pd} (hp : AllOk ps) (hq : AllOk qs) : kept ps = kept qs ↔ ∀ t, InS ps t ↔ InS qs t :=
  ⟨fun e t => by rw [← inS_kept hp, e, inS_kept hq], kept_eq hp hq⟩
end M23
namespace Lw
open PySem PySem.Spec PyProof.Rows L3
open L2 hiding del del_same del_ne
def PcOk (sg : List Nat) (x : List Nat) : Prop := (∃ c ∈ sg, x = [c]) ∨ ∃ l : List Nat, l ≠ [] ∧ l.Pairwise (· < ·) ∧ (∀ c ∈ l, c ∈ sg) ∧ x = l ++ [42]
def PdOk (sg : List Nat) (p : M23.Pd) : Prop := ∀ x ∈ p, PcOk sg x
theorem Lets.no {sg : List Nat} (h : Lets sg) : 42 ∉ sg := fun z => by have := h.az 42 z; omega
theorem PcOk.ok {sg x : List Nat} (hl : Lets sg) (h : PcOk sg x) : M23.Ok x := by
  rcases h with ⟨c, hc, rfl⟩ | ⟨l, h1, h2, h3, rfl⟩
  · exact .inl ⟨c, fun e => hl.no (e ▸ hc), rfl⟩
  · exact .inr ⟨l, h1, h2, fun z => hl.no (h3 _ z), rfl⟩
theorem PdOk.ok {sg : List Nat} {p : M23.Pd} (hl : Lets sg) (h : PdOk sg p) : ∀ x ∈ p, M23.Ok x := fun x hx => (h x hx).ok hl
theorem PcOk.lts {sg x : List Nat} (hl : Lets sg) (h : PcOk sg x) : ∀ c ∈ M23.lt x, c ∈ sg := by
  rcases h with ⟨c, hc, rfl⟩ | ⟨l, h1, h2, h3, rfl⟩
  · rw [M23.lt_one fun e => hl.no (e ▸ hc)]
    intro d hd
    rw [List.mem_singleton.mp hd]
    exact hc
  · rw [M23.lt_star]; exact h3
theorem sub_lets {sg l : List Nat} (hl : Lets sg) (h2 : l.Pairwise (· < ·)) (h3 : ∀ c ∈ l, c ∈ sg) : l.length ≤ 3 :=
  Nat.le_trans (L2.nat_nodup_len l sg (h2.imp fun h => Nat.ne_of_lt h) h3) hl.few
theorem PcOk.len {sg x : List Nat} (hl : Lets sg) (h : PcOk sg x) : x.length ≤ 4 := by
  rcases h with ⟨c, hc, rfl⟩ | ⟨l, h1, h2, h3, rfl⟩
  · simp
  · have := sub_lets hl h2 h3
    rw [List.length_append]
    show l.length + 1 ≤ 4
    omega
theorem PcOk.up {sg x : List Nat} (hl : Lets sg) (h : PcOk sg x) : (M23.lt x).Pairwise (· < ·) ∧ M23.lt x ≠ [] ∧ (M23.lt x).length ≤ if M23.isS x then 3 else 1 := by
  rcases h with ⟨c, hc, rfl⟩ | ⟨l, h1, h2, h3, rfl⟩
  · have n : c ≠ 42 := fun e => hl.no (e ▸ hc)
    rw [M23.lt_one n, M23.isS_one n]
    exact ⟨List.pairwise_singleton _ _, by simp, by simp⟩
  · rw [M23.lt_star, M23.isS_star, if_pos rfl]
    exact ⟨h2, h1, sub_lets hl h2 h3⟩
theorem yes_tk {σ : L2.St} {H : Hp} {F N : Hp → Prop} (h : F H) : tYes σ H fun b H3 => if b = true then F H3 else N H3 := by
  show (if true = true then F H else N H)
  rw [if_pos rfl]
  exact h
theorem lt_len (x : List Nat) : (M23.lt x).length ≤ x.length := by
  unfold M23.lt
  split
  · rw [List.length_dropLast]; omega
  · exact Nat.le_refl _
theorem all_id_rep (n : Nat) : (List.replicate n true).all id = true := by
  induction n with
  | zero => rfl
  | succ n ih => rw [List.replicate_succ, List.all_cons, ih]; rfl
theorem last_one {x : List Nat} : decide (tx (x.drop (x.length - 1)) = V.str "*") = M23.isS x := by
  have e : (V.str "*") = tx [42] := by decide +kernel
  rw [e]
  unfold M23.isS
  have key : (tx (x.drop (x.length - 1)) = tx [42]) ↔ x.getLast? = some 42 := by
    refine Iff.trans ⟨tx_inj, congrArg tx⟩ ?_
    rcases List.eq_nil_or_concat x with rfl | ⟨l, a, rfl⟩
    · simp
    · simp
  by_cases h : x.getLast? = some 42
  · rw [decide_eq_true (key.mpr h), h]; rfl
  · rw [decide_eq_false fun z => h (key.mp z)]
    exact (beq_eq_false_iff_ne.mpr h).symm
section
variable {P : Program} {w : World} {K : PySem.W.Frag} {mg : Str → Option Value} {base : Heap}
def spIsStar : Sp := fun vs H Q _ => ∃ x, vs = [tx x] ∧ x.length ≤ 10000 ∧ Q (.bl (M23.isS x)) H
theorem ok_is_star (T : All K mg) : FnOk P w K mg base CX0 1 T.f_is_star T.d_is_star ["piece"] spIsStar := by
  refine T.is_star.F.ok sc_is_star (fun vs H Q E h => ?_) (fun cdv A outer s H vs Q E hr h => ?_)
  · obtain ⟨x, rfl, _⟩ := h
    rfl
  · obtain ⟨x, rfl, hz, q⟩ := h
    obtain ⟨t1, hSTAR⟩ := T.c_STAR
    refine ⟨_, pss_one (ps_ret (pe_cmpR op_eq (pe_slice sl_txN (pv 0) (po_some (pe_un un_neg pe_int)) po_none) (pe_glob (v := .str "*") rfl hSTAR ⟨_, rfl⟩) (by rfl))), ?_⟩
    refine ⟨_, rfl, 1, rfl, _, rfl, x, rfl, sz (by omega), .inr ⟨rfl, rfl, rfl, ?_⟩⟩
    rw [last_one]
    exact q
def spLettersIn : Sp := fun vs H Q _ => ∃ x, vs = [tx x] ∧ x.length ≤ 10000 ∧ Q (tx (M23.lt x)) H
theorem ok_letters_in (T : All K mg) : FnOk P w K mg base CX0 2 T.f_letters_in T.d_letters_in ["piece"] spLettersIn := by
  refine T.letters_in.F.ok sc_letters_in (fun vs H Q E h => ?_) (fun cdv A outer s H vs Q E hr h => ?_)
  · obtain ⟨x, rfl, _⟩ := h
    rfl
  · obtain ⟨x, rfl, hz, q⟩ := h
    refine ⟨_, pss_one (ps_ret (pe_ifExp (pt_val (pe_call (ok_is_star T) (hr.mono (by decide)) (by rfl) T.is_star.g T.is_star.F.kp T.is_star.b .nil pass0 (pa_cons (pv 0) pa_nil))) (pe_slice sl_txN (pv 0) po_none (po_some (pe_un un_neg pe_int))) (pv 0))), ?_⟩
    unfold M23.lt at q
    refine ⟨_, rfl, x, rfl, hz, _, rfl, ite2 (fun e => ?_) (fun e => ?_)⟩
    · rw [if_pos e] at q
      exact ⟨_, rfl, 1, rfl, _, rfl, x, rfl, sz (by omega), .inl ⟨rfl, rfl, q⟩⟩
    · rw [if_neg e] at q
      exact ⟨_, rfl, q⟩
def spRising : Sp := fun vs H Q _ => ∃ l, vs = [tx l] ∧ l.length ≤ 3 ∧ (∀ c ∈ l, 97 ≤ c ∧ c ≤ 122) ∧ l.Pairwise (· < ·) ∧ ∀ H', Same H H' → Q (.bl true) H'
theorem ok_are_rising (T : All K mg) : FnOk P w K mg base CX0 1 T.f_are_rising T.d_are_rising ["letters"] spRising := by
  refine T.are_rising.F.ok sc_are_rising (fun vs H Q E h => ?_) (fun cdv A outer s H vs Q E hr h => ?_)
  · obtain ⟨l, rfl, _⟩ := h
    rfl
  · obtain ⟨l, rfl, h3, haz, hup, q⟩ := h
    obtain ⟨t1, hSMALL_products⟩ := T.c_SMALL_products
    refine ⟨_, pss_cons (ps_if (pt_not (pt_val (pe_callB (cr_all rfl) (by rfl) T.b_all PyProof.Rows.boot_all (pa_cons (pe_lc (own := [("letter", 1)]) (g := gName 1) (tt := tYes) rfl sc_are_rising.nd (pi_str (pv 0))
          (blkOk_by (own := [("letter", 1)]) (N := ["letters", "letter", "at"]) (sc := defScope s_are_rising) (by decide +kernel))
          (fun _ _ _ _ _ => pg_name (i := 1) sc_are_rising.nd rfl (by first | exact Or.inl rfl | exact Or.inr rfl)) (fun _ _ _ _ _ => pts_nil)
          (fun _ _ _ _ _ => (pe_cmpR op_in_sign (pv 1) (pe_glob (v := .str "abcdefghijklmnopqrstuvwxyz") rfl hSMALL_products ⟨_, rfl⟩) (by rfl)))) pa_nil)))) (pss_one (ps_ret pe_bl)) pss_nil)
      (pss_one (ps_ret (pe_callB (cr_all rfl) (by rfl) T.b_all PyProof.Rows.boot_all (pa_cons (pe_lc (own := [("at", 2)]) (g := gName 2) (tt := tYes) rfl sc_are_rising.nd (pi_range1 rfl T.b_range (pa_cons (pe_op op_sub (pe_callB call_lenT (by rfl) T.b_len PySem.boot_len (pa_cons (pv 0) pa_nil)) pe_int) pa_nil))
          (blkOk_by (own := [("at", 2)]) (N := ["letters", "letter", "at"]) (sc := defScope s_are_rising) (by decide +kernel))
          (fun _ _ _ _ _ => pg_name (i := 2) sc_are_rising.nd rfl (by first | exact Or.inl rfl | exact Or.inr rfl)) (fun _ _ _ _ _ => pts_nil)
          (fun _ _ _ _ _ => (pe_cmpR op_lt_str (pe_ix ix_tx (pv 0) (pv 2) (fun _ _ => rfl)) (pe_ix ix_tx (pv 0) (pe_op op_add (pv 2) pe_int) (fun _ _ => rfl)) (by rfl)))) pa_nil)))), ?_⟩
    refine ⟨_, rfl, tS l, rfl, fun D nD => ?_⟩
    refine lc_gen walk_tx (Same H) (fun i acc => acc = List.replicate i (.bl true)) (sz (by omega)) (fun i acc e => by rw [e]; simp) rfl (same_upd nD) (fun _ _ h => same_up h nD) (fun _ _ => trivial) (fun i x H2 H3 acc C N hi r hD ha y c n => ?_) (fun H2 xs r hD ha => ?_)
    · obtain ⟨rfl, ch, hc, rfl⟩ := y
      refine ⟨rfl, yes_te ⟨_, rfl, ch, _, rfl, rfl, c _ _ r hD ?_⟩⟩
      rw [ha, List.replicate_succ', decide_eq_true (small_mem (haz ch (List.mem_of_getElem? hc)))]
    subst ha
    refine ⟨D, List.replicate _ true, rfl, .inl (.inl (by rw [hD, List.map_replicate])), _, rfl, ?_⟩
    rw [all_id_rep]
    refine iteF ?_
    dsimp only [tNext]
    refine ⟨_, rfl, l, rfl, sz (by omega), _, _, rfl, rfl, ?_⟩
    refine ⟨_, rfl, by omega, by omega, fun D2 nD2 => ?_⟩
    have nD3 := r.free nD2
    have r2 := same_up (o := .lst []) r nD3
    refine lc_gen walk_range (Same H) (fun i acc => acc = List.replicate i (.bl true)) (sz (by omega)) (fun i acc e => by rw [e]; simp) rfl r2 (fun _ _ h => same_up h nD3) (fun _ _ => trivial) (fun i x H4 H5 acc C N hi r' hD' ha y c n => ?_) (fun H4 xs r' hD' ha => ?_)
    · obtain ⟨rfl, rfl⟩ := y
      have hi1 : i + 1 < l.length := by omega
      have h1 := List.getElem?_eq_getElem (l := l) (i := i) (by omega)
      have h2 := List.getElem?_eq_getElem hi1
      refine ⟨rfl, yes_te ⟨_, rfl, _, rfl, l, i, _, rfl, congrArg V.int (Int.zero_add _), sz (by omega), h1, _, rfl, _, rfl, _, _, rfl, rfl, l, i + 1, _, rfl, congrArg V.int (by omega), sz (by omega), h2, _, _, rfl, rfl, c _ _ r' hD' ?_⟩⟩
      rw [ha, List.replicate_succ']
      have hlt := List.pairwise_iff_getElem.mp hup i (i + 1) (by omega) hi1 (by omega)
      have : decide ((tS [l[i]]).cps.toList < (tS [l[i + 1]]).cps.toList) = true := decide_eq_true (List.cons_lt_cons_iff.mpr (.inl hlt))
      rw [this]
    subst ha
    refine ⟨D2, List.replicate _ true, rfl, .inl (.inl (by rw [hD', List.map_replicate])), ?_⟩
    rw [all_id_rep]
    exact q _ r'
def spIsPiece : Sp := fun vs H Q _ => ∃ sg x, vs = [tx x] ∧ Lets sg ∧ PcOk sg x ∧ ∀ H', Same H H' → Q (.bl true) H'
theorem ok_is_piece (T : All K mg) : FnOk P w K mg base CX0 3 T.f_is_piece T.d_is_piece ["value"] spIsPiece := by
  refine T.is_piece.F.ok sc_is_piece (fun vs H Q E h => ?_) (fun cdv A outer s H vs Q E hr h => ?_)
  · obtain ⟨sg, x, rfl, _⟩ := h
    rfl
  · obtain ⟨sg, x, rfl, hl, hx, q⟩ := h
    obtain ⟨t1, hMOST_IN_STAR⟩ := T.c_MOST_IN_STAR
    have hz := hx.len hl
    obtain ⟨u1, u2, u3⟩ := hx.up hl
    have hin := hx.lts hl
    have h3 : (M23.lt x).length ≤ 3 := by
      split at u3 <;> omega
    refine ⟨_, pss_cons (ps_if (PW.pt (pw_or (pt_not (pt_val (pe_callB call_isi (by rfl) T.b_isinstance boot_isinstance (pa_cons (pv 0) (pa_cons (pe_bltn (v := .ty "str") (by rfl) T.b_str (by decide +kernel) rfl) pa_nil))))) (pw_or1 (pt_not (pt_val (pe_call (ok_are_rising T) (hr.mono (by decide)) (by rfl) T.are_rising.g T.are_rising.F.kp T.are_rising.b .nil pass0 (pa_cons (pe_call (ok_letters_in T) (hr.mono (by decide)) (by rfl) T.letters_in.g T.letters_in.F.kp T.letters_in.b .nil pass0 (pa_cons (pv 0) pa_nil)) pa_nil))))))) (pss_one (ps_ret pe_bl)) pss_nil)
      (pss_one (ps_ret (pe_chain op_le op_le pe_int (pe_callB call_lenT (by rfl) T.b_len PySem.boot_len (pa_cons (pe_call (ok_letters_in T) (hr.mono (by decide)) (by rfl) T.letters_in.g T.letters_in.F.kp T.letters_in.b .nil pass0 (pa_cons (pv 0) pa_nil)) pa_nil)) (pe_ifExp (pt_val (pe_call (ok_is_star T) (hr.mono (by decide)) (by rfl) T.is_star.g T.is_star.F.kp T.is_star.b .nil pass0 (pa_cons (pv 0) pa_nil))) (pe_glob (v := .int 3) rfl hMOST_IN_STAR ⟨_, rfl⟩) pe_int)))), ?_⟩
    refine ⟨tx x, rfl, tx x, .ty "str", .type "str", .type "str", true, rfl, .ty _, .base (.str _), kit_ty (by decide +kernel), true, rfl, iteF ?_⟩
    refine ⟨_, rfl, x, rfl, by omega, M23.lt x, rfl, h3, fun c hc => hl.az c (hin c hc), u1, fun H1 s1 => ⟨true, rfl, iteF ?_⟩⟩
    dsimp only [tNext]
    refine ⟨_, rfl, x, rfl, by omega, M23.lt x, rfl, sz (by omega), _, _, rfl, rfl, _, rfl, ?_⟩
    have hpos : 1 ≤ (M23.lt x).length := List.length_pos_iff.mpr u2
    refine ite_t (decide_eq_true (by omega)) ⟨_, rfl, x, rfl, by omega, _, rfl, ite2 (fun e => ?_) (fun e => ?_)⟩
    · rw [if_pos e] at u3
      refine ⟨_, _, rfl, rfl, ?_⟩
      show Q (.bl (decide (((M23.lt x).length : Int) ≤ 3))) H1
      rw [decide_eq_true (show ((M23.lt x).length : Int) ≤ 3 by omega)]
      exact q _ s1
    · rw [if_neg e] at u3
      refine ⟨_, _, rfl, rfl, ?_⟩
      show Q (.bl (decide (((M23.lt x).length : Int) ≤ 1))) H1
      rw [decide_eq_true (show ((M23.lt x).length : Int) ≤ 1 by omega)]
      exact q _ s1
theorem dp_txs_eq {H : Hp} : ∀ {p : M23.Pd} {xs : List V}, DpAll K H xs ((M23.sS p).map PyData.str) → xs = p.map tx
  | [], _, .nil => rfl
  | x :: p, _, .cons h1 h2 => by
    rw [dp_txs_eq h2, dp_str h1]
    rfl
theorem dp_pd {H : Hp} {v : V} {p : M23.Pd} (h : Dp K H v (M23.dP p)) : ∃ a, v = .ref a ∧ SqT K H a (p.map tx) := by
  obtain ⟨a, xs, rfl, hs, ha⟩ := dp_tuple h
  refine ⟨a, rfl, ?_⟩
  rw [← dp_txs_eq ha]
  exact hs
def spIsProduct (K : PySem.W.Frag) : Sp := fun vs H Q _ => ∃ sg v p, vs = [v] ∧ Lets sg ∧ PdOk sg p ∧ p.length ≤ 1000 ∧ Dp K H v (M23.dP p) ∧ ∀ H', Same H H' → Q (.bl true) H'
theorem ok_is_product (T : All K mg) : FnOk P w K mg base CX0 4 T.f_is_product T.d_is_product ["value"] (spIsProduct K) := by
  refine T.is_product.F.ok sc_is_product (fun vs H Q E h => ?_) (fun cdv A outer s H vs Q E hr h => ?_)
  · obtain ⟨sg, v, p, rfl, _⟩ := h
    rfl
  · obtain ⟨sg, v, p, rfl, hl, hp, hz, hd, q⟩ := h
    obtain ⟨a, rfl, hs⟩ := dp_pd hd
    refine ⟨_, pss_one (ps_ret (pe_and (pe_callB call_isi (by rfl) T.b_isinstance boot_isinstance (pa_cons (pv 0) (pa_cons (pe_bltn (v := .ty "tuple") (by rfl) T.b_tuple (by decide +kernel) rfl) pa_nil)))
        (pe_one (pe_callB (cr_all rfl) (by rfl) T.b_all PyProof.Rows.boot_all (pa_cons (pe_lc (own := [("piece", 1)]) (g := gName 1) (tt := tYes) rfl sc_is_product.nd (pi_tup (pv 0))
          (blkOk_by (own := [("piece", 1)]) (N := ["value", "piece"]) (sc := defScope s_is_product) (by decide +kernel))
          (fun _ _ _ _ _ => pg_name (i := 1) sc_is_product.nd rfl (by first | exact Or.inl rfl | exact Or.inr rfl)) (fun _ _ _ _ _ => pts_nil)
          (fun _ _ _ _ _ => (pe_call (ok_is_piece T) (hr.mono (by decide)) (by rfl) T.is_piece.g T.is_piece.F.kp T.is_piece.b .nil pass0 (pa_cons (pv 1) pa_nil)))) pa_nil))))), ?_⟩
    refine ⟨_, rfl, .ref a, .ty "tuple", .type "tuple", .type "tuple", true, rfl, .ty _, ty_tuple hs, kit_ty (by decide +kernel), true, rfl, ite_t rfl ?_⟩
    refine ⟨_, rfl, a, rfl, ⟨_, hs⟩, fun D nD => ?_⟩
    refine lc_gen (walk_tup (xs := p.map tx)) (Same H) (fun i acc => acc = List.replicate i (.bl true)) (sz (by rw [List.length_map]; omega)) (fun i acc e => by rw [e]; simp) rfl (same_upd nD) (fun _ _ h => same_up h nD) (fun _ h => sqT_same hs h) (fun i x H2 H3 acc C N hi r hD ha y c n => ?_) (fun H2 xs r hD ha => ?_)
    · obtain ⟨rfl, y⟩ := y
      rw [List.getElem?_map] at y
      obtain ⟨u, hu, rfl⟩ := Option.map_eq_some_iff.mp y
      refine ⟨rfl, yes_te ⟨_, rfl, sg, u, rfl, hl, hp u (List.mem_of_getElem? hu), fun H4 s4 => c _ _ (r.trans s4) (s4 _ _ hD) ?_⟩⟩
      rw [ha, List.replicate_succ']
    subst ha
    refine ⟨D, List.replicate _ true, rfl, .inl (.inl (by rw [hD, List.map_replicate])), ?_⟩
    rw [all_id_rep]
    exact q _ r
def spProductOver (K : PySem.W.Frag) : Sp := fun vs H Q _ => ∃ sg v p, vs = [tx sg, v] ∧ Lets sg ∧ PdOk sg p ∧ p.length ≤ 1000 ∧ Dp K H v (M23.dP p) ∧ ∀ H', Same H H' → Q (.bl true) H'
theorem ok_is_product_over (T : All K mg) : FnOk P w K mg base CX0 5 T.f_is_product_over T.d_is_product_over ["letters", "value"] (spProductOver K) := by
  refine T.is_product_over.F.ok sc_is_product_over (fun vs H Q E h => ?_) (fun cdv A outer s H vs Q E hr h => ?_)
  · obtain ⟨sg, v, p, rfl, _⟩ := h
    rfl
  · obtain ⟨sg, v, p, rfl, hl, hp, hz, hd, q⟩ := h
    refine ⟨_, pss_one (ps_ret (pe_and (pe_call (ok_is_product T) (hr.mono (by decide)) (by rfl) T.is_product.g T.is_product.F.kp T.is_product.b .nil pass0 (pa_cons (pv 1) pa_nil))
        (pe_one (pe_callB (cr_all rfl) (by rfl) T.b_all PyProof.Rows.boot_all (pa_cons (pe_lc2 (own := [("piece", 2), ("letter", 3)]) (vs1 := [3]) (g := gName 2) (g1 := gName 3) (tt := tYes) (tt1 := tYes) rfl sc_is_product_over.nd (pi_tup (pv 1))
          (blkOk_by (own := [("piece", 2), ("letter", 3)]) (N := ["letters", "value", "piece", "letter"]) (sc := defScope s_is_product_over) (by decide +kernel)) (by decide)
          (fun _ _ _ _ _ => (pg_name (i := 2) sc_is_product_over.nd rfl (by first | exact Or.inl rfl | exact Or.inr rfl))) (fun _ _ _ _ _ => pts_nil)
          (fun _ _ _ _ _ => (pi_str (pe_call (ok_letters_in T) (hr.mono (by decide)) (by rfl) T.letters_in.g T.letters_in.F.kp T.letters_in.b .nil pass0 (pa_cons (pv 2) pa_nil)))) (fun _ _ _ _ _ => (pg_name (i := 3) sc_is_product_over.nd rfl (by first | exact Or.inl rfl | exact Or.inr rfl))) (fun _ _ _ _ _ => pts_nil)
          (fun _ _ _ _ _ => (pe_cmpR op_in_sign (pv 3) (pv 0) (by rfl)))) pa_nil))))), ?_⟩
    refine ⟨_, rfl, sg, v, p, rfl, hl, hp, hz, hd, fun H1 s1 => ⟨true, rfl, ite_t rfl ?_⟩⟩
    obtain ⟨a, rfl, hs⟩ := dp_pd (Dp.same s1 hd)
    refine ⟨_, rfl, a, rfl, ⟨_, hs⟩, fun D nD => ?_⟩
    refine lc2_it (walk_tup (xs := p.map tx)) (fun j H' => Same H1 H' ∧ ∃ m, m ≤ 4 * j ∧ H' D = some (.lst (List.replicate m (.bl true)))) ⟨same_upd nD, 0, Nat.le_refl _, upd_same⟩ (fun j H' _ x => sqT_same hs x.1) (fun j x H3 H4 hj r3 y => ?_) (fun H3 r3 => ?_)
    · obtain ⟨rfl, y⟩ := y
      obtain ⟨s3, m, hm, hD⟩ := r3
      rw [List.getElem?_map] at y
      obtain ⟨u, hu, rfl⟩ := Option.map_eq_some_iff.mp y
      have hux := hp u (List.mem_of_getElem? hu)
      have hul := hux.len hl
      have hlt := hux.lts hl
      have hll : (M23.lt u).length ≤ 4 := by
        have := (hux.up hl).2.2
        split at this <;> omega
      rw [List.length_map] at hj
      refine ⟨rfl, yes_tk ?_⟩
      refine ⟨_, rfl, u, rfl, by omega, tS (M23.lt u), rfl, ?_⟩
      refine lc2_in walk_tx (fun k H' => Same H1 H' ∧ ∃ m, m ≤ 4 * j + k ∧ H' D = some (.lst (List.replicate m (.bl true)))) ⟨s3, m, by omega, hD⟩ (fun _ _ _ _ => trivial) (fun k x H5 H6 hk r5 y2 => ?_) (fun H5 r5 => ?_)
      · obtain ⟨rfl, ch, hch, rfl⟩ := y2
        obtain ⟨s5, m5, hm5, hD5⟩ := r5
        refine ⟨rfl, yes_te ⟨_, rfl, _, rfl, ch, _, rfl, rfl, _, hD5, by rw [List.length_replicate]; exact Nat.lt_of_lt_of_le (by omega : m5 < 100000) (sz (Nat.le_refl _)), same_up s5 nD, m5 + 1, by omega, ?_⟩⟩
        rw [upd_same, decide_eq_true (hlt ch (List.mem_of_getElem? hch)), ← List.replicate_succ']
      · obtain ⟨s5, m5, hm5, hD5⟩ := r5
        exact ⟨s5, m5, by omega, hD5⟩
    · obtain ⟨s3, m, hm, hD⟩ := r3
      refine ⟨D, List.replicate _ true, rfl, .inl (.inl (by rw [hD, List.map_replicate])), ?_⟩
      rw [all_id_rep]
      exact q _ (s1.trans s3)
def spHolds : Sp := fun vs H Q _ => ∃ y x, vs = [tx y, tx x] ∧ y.length ≤ 10 ∧ x.length ≤ 10 ∧ ∀ H', Same H H' → Q (.bl (M23.holds y x)) H'
theorem ok_holds (T : All K mg) : FnOk P w K mg base CX0 3 T.f_holds T.d_holds ["piece", "other"] spHolds := by
  refine T.holds.F.ok sc_holds (fun vs H Q E h => ?_) (fun cdv A outer s H vs Q E hr h => ?_)
  · obtain ⟨y, x, rfl, _⟩ := h
    rfl
  · obtain ⟨y, x, rfl, hy, hx, q⟩ := h
    refine ⟨_, pss_cons (ps_if (pt_val (pe_call (ok_is_star T) (hr.mono (by decide)) (by rfl) T.is_star.g T.is_star.F.kp T.is_star.b .nil pass0 (pa_cons (pv 0) pa_nil))) (pss_one (ps_ret (pe_callB (cr_all rfl) (by rfl) T.b_all PyProof.Rows.boot_all (pa_cons (pe_lc (own := [("letter", 2)]) (g := gName 2) (tt := tYes) rfl sc_holds.nd (pi_str (pe_call (ok_letters_in T) (hr.mono (by decide)) (by rfl) T.letters_in.g T.letters_in.F.kp T.letters_in.b .nil pass0 (pa_cons (pv 1) pa_nil)))
          (blkOk_by (own := [("letter", 2)]) (N := ["piece", "other", "letter"]) (sc := defScope s_holds) (by decide +kernel))
          (fun _ _ _ _ _ => pg_name (i := 2) sc_holds.nd rfl (by first | exact Or.inl rfl | exact Or.inr rfl)) (fun _ _ _ _ _ => pts_nil)
          (fun _ _ _ _ _ => (pe_cmpR op_in_sign (pv 2) (pe_call (ok_letters_in T) (hr.mono (by decide)) (by rfl) T.letters_in.g T.letters_in.F.kp T.letters_in.b .nil pass0 (pa_cons (pv 0) pa_nil)) (by rfl)))) pa_nil)))) pss_nil)
      (pss_one (ps_ret (pe_cmpR op_eq (pv 0) (pv 1) (by rfl)))), ?_⟩
    have hlx : (M23.lt x).length ≤ 10 := Nat.le_trans (lt_len x) hx
    have hly : (M23.lt y).length ≤ 10 := Nat.le_trans (lt_len y) hy
    refine ⟨_, rfl, y, rfl, by omega, M23.isS y, rfl, ite2 (fun e => ?_) (fun e => ?_)⟩
    · refine ⟨_, rfl, x, rfl, by omega, tS (M23.lt x), rfl, fun D nD => ?_⟩
      refine lc_gen walk_tx (Same H) (fun i acc => acc = ((M23.lt x).take i).map fun c => V.bl (decide (c ∈ M23.lt y))) (sz (by omega)) (fun i acc e => by rw [e]; simp; omega) rfl (same_upd nD) (fun _ _ h => same_up h nD) (fun _ _ => trivial) (fun i u H2 H3 acc C N hi r hD ha yy c n => ?_) (fun H2 xs r hD ha => ?_)
      · obtain ⟨rfl, ch, hc, rfl⟩ := yy
        refine ⟨rfl, yes_te ⟨_, rfl, _, rfl, y, rfl, by omega, ch, _, rfl, rfl, c _ _ r hD ?_⟩⟩
        rw [ha, List.take_add_one, hc, List.map_append]
        rfl
      subst ha
      rw [List.take_length] at hD
      refine ⟨D, (M23.lt x).map fun c => decide (c ∈ M23.lt y), rfl, .inl (.inl (by rw [hD, List.map_map]; rfl)), ?_⟩
      have ee : ((M23.lt x).map fun c => decide (c ∈ M23.lt y)).all id = M23.holds y x := by
        unfold M23.holds
        rw [if_pos e, List.all_map]
        rfl
      rw [ee]
      exact q _ r
    · dsimp only [tNext]
      refine ⟨_, rfl, _, rfl, rfl, ?_⟩
      have ee : decide (tx y = tx x) = M23.holds y x := by
        unfold M23.holds
        rw [if_neg e]
        exact decide_eq_decide.mpr ⟨tx_inj, congrArg tx⟩
      rw [ee]
      exact q _ (Same.refl _)
def spBehind (K : PySem.W.Frag) : Sp := fun vs H Q _ => ∃ v p i x, vs = [v, .int (i : Nat), tx x] ∧ Dp K H v (M23.dP p) ∧ i ≤ p.length ∧ p.length ≤ 1000 ∧ (∀ y ∈ p, y.length ≤ 10) ∧ x.length ≤ 10 ∧ ∀ H', Same H H' → Q (.int (M23.enc (M23.pb p i x))) H'
theorem ok_place_behind (T : All K mg) : FnOk P w K mg base CX0 4 T.f_place_behind T.d_place_behind ["product", "place", "piece"] (spBehind K) := by
  refine T.place_behind.F.ok sc_place_behind (fun vs H Q E h => ?_) (fun cdv A outer s H vs Q E hr h => ?_)
  · obtain ⟨v, p, i, x, rfl, _⟩ := h
    rfl
  · obtain ⟨v, p, i, x, rfl, hd, hi, hz, hyl, hx, q⟩ := h
    obtain ⟨t1, hLOST⟩ := T.c_LOST
    obtain ⟨a, rfl, hs⟩ := dp_pd hd
    refine ⟨_, pss_cons (ps_for PassesOwn.never rfl (pi_range2 rfl T.b_range (pa_cons (pv 1) (pa_cons (pe_callB call_len_seq (by rfl) T.b_len PySem.boot_len (pa_cons (pv 0) pa_nil)) pa_nil))) (pg_name (i := 3) sc_place_behind.nd rfl (by first | exact Or.inl rfl | exact Or.inr rfl))
        (pss_one (ps_if (pt_val (pe_call (ok_holds T) (hr.mono (by decide)) (by rfl) T.holds.g T.holds.F.kp T.holds.b .nil pass0 (pa_cons (pe_ix ix_tup (pv 0) (pv 3) (fun _ _ => rfl)) (pa_cons (pv 2) pa_nil)))) (pss_one (ps_ret (pe_ifExp (pt_val (pe_call (ok_is_star T) (hr.mono (by decide)) (by rfl) T.is_star.g T.is_star.F.kp T.is_star.b .nil pass0 (pa_cons (pe_ix ix_tup (pv 0) (pv 3) (fun _ _ => rfl)) pa_nil))) (pv 3) (pe_op op_add (pv 3) pe_int)))) pss_nil)))
      (pss_one (ps_ret (pe_glob (v := .int (-1)) rfl hLOST ⟨_, rfl⟩))), ?_⟩
    dsimp only [cxOf]
    have hlp : (p.map tx).length = p.length := List.length_map ..
    refine ⟨_, rfl, _, rfl, a, _, rfl, .inr hs, _, _, rfl, ⟨by omega, by omega, by omega, by omega⟩, ?_⟩
    refine for_it walk_range (fun k σ H' => ∃ g, σ = [some (.ref a), some (.int (i : Nat)), some (tx x), g] ∧ Same H H' ∧ ∀ j y, i ≤ j → j < i + k → p[j]? = some y → M23.holds y x = false) ⟨none, rfl, Same.refl _, fun j y h1 h2 _ => by omega⟩ (fun _ _ _ _ _ => trivial) (fun k v σ Ha Hb hk pp yy => ?_) (fun σ Hc pp => ?_)
    · obtain ⟨g, rfl, sa, hno⟩ := pp
      obtain ⟨rfl, rfl⟩ := yy
      have hkp : i + k < p.length := by omega
      have ek : ((i : Int) + (k : Int)) = ((i + k : Nat) : Int) := by omega
      have hy := List.getElem?_eq_getElem hkp
      have hat : ∀ y, p[i + k]? = some y → atI (p.map tx) ((i : Int) + (k : Int)) = some (tx y) := fun y e => by
        rw [ek]
        exact atI_nat (by rw [List.getElem?_map, e]; rfl)
      generalize p[i + k] = y at hy
      have hylen := hyl y (List.mem_of_getElem? hy)
      have hsa := sqT_same hs sa
      refine ⟨_, rfl, _, rfl, a, _, _, tx y, rfl, rfl, hsa, hat y hy, _, rfl, y, x, rfl, hylen, hx, fun H2 s2 => ⟨_, rfl, ite2 (fun e => ?_) (fun e => ?_)⟩⟩
      · have hsb := sqT_same hs (sa.trans s2)
        have fin := M23.pb_found hy e (i + k - i) i rfl (by omega) hno
        refine ⟨_, rfl, _, rfl, a, _, _, tx y, rfl, rfl, hsb, hat y hy, y, rfl, by omega, _, rfl, ite2 (fun e2 => ?_) (fun e2 => ?_)⟩
        · rw [fin, if_pos e2] at q
          refine ⟨_, rfl, ?_⟩
          show Q (.int ((i : Int) + (k : Int))) H2
          rw [ek]
          exact q _ (sa.trans s2)
        · rw [fin, if_neg e2] at q
          refine ⟨_, rfl, _, _, rfl, rfl, ?_⟩
          show Q (.int ((i : Int) + (k : Int) + 1)) H2
          rw [ek]
          exact q _ (sa.trans s2)
      · dsimp only [tNext]
        refine ⟨_, rfl, sa.trans s2, fun j y' h1 h2 h3 => ?_⟩
        by_cases hj : j = i + k
        · subst hj
          rw [hy] at h3
          cases h3
          exact Bool.eq_false_iff.mpr e
        · exact hno j y' h1 (by omega) h3
    · obtain ⟨g, rfl, sa, hno⟩ := pp
      have fin := M23.pb_none (x := x) (q := p) (p.length - i) i rfl fun j y h1 h2 => by
        have := (List.getElem?_eq_some_iff.mp h2).1
        exact hno j y h1 (by omega) h2
      rw [fin] at q
      exact q _ sa
end
end Lw
namespace Lw
open PySem PySem.Spec PyProof.Rows L3
open L2 hiding del del_same del_ne
section
variable {P : Program} {w : World} {K : PySem.W.Frag} {mg : Str → Option Value} {base : Heap}
def runO (p : M23.Pd) (o : Option Nat) (q : M23.Pd) : Option Nat := o.bind fun i => M23.runI p i q
theorem runO_snoc (p : M23.Pd) (o : Option Nat) (q : M23.Pd) (x : M23.Pc) : runO p o (q ++ [x]) = (runO p o q).bind fun i => M23.pb p i x := by
  unfold runO
  cases o with
  | none => rfl
  | some i =>
    show M23.runI p i (q ++ [x]) = (M23.runI p i q).bind _
    rw [M23.runI_append]
    cases M23.runI p i q with
    | none => rfl
    | some k =>
      show (M23.pb p k x).bind _ = M23.pb p k x
      cases M23.pb p k x <;> rfl
theorem runO_le {p : M23.Pd} {o : Option Nat} {q : M23.Pd} {k : Nat} (h : ∀ i, o = some i → i ≤ p.length) (e : runO p o q = some k) : k ≤ p.length := by
  unfold runO at e
  cases o with
  | none => cases e
  | some i => exact M23.runI_le (h i rfl) e
def spPlaceBy (K : PySem.W.Frag) : Sp := fun vs H Q _ => ∃ v u p o q, vs = [v, .int (M23.enc o), u] ∧ Dp K H v (M23.dP p) ∧ (∀ i, o = some i → i ≤ p.length) ∧ p.length ≤ 1000 ∧ (∀ y ∈ p, y.length ≤ 10) ∧ q.length ≤ 2000 ∧ (∀ y ∈ q, y.length ≤ 10) ∧ Dp K H u (M23.dP q) ∧ ∀ H', Same H H' → Q (.int (M23.enc (runO p o q))) H'
theorem ok_place_byP (T : All K mg) : FnOk P w K mg base CX0 5 T.f_place_by T.d_place_by ["product", "place", "pieces"] (spPlaceBy K) := by
  refine T.place_by.F.ok sc_place_by (fun vs H Q E h => ?_) (fun cdv A outer s H vs Q E hr h => ?_)
  · obtain ⟨v, u, p, o, q, rfl, _⟩ := h
    rfl
  · obtain ⟨v, u, p, o, q, rfl, hd, ho, hz, hyl, hqz, hql, hu, k⟩ := h
    obtain ⟨t1, hLOST⟩ := T.c_LOST
    obtain ⟨a, rfl, hs⟩ := dp_pd hd
    obtain ⟨b, rfl, hb⟩ := dp_pd hu
    refine ⟨_, pss_cons (ps_for PassesOwn.never rfl (pi_tup (pv 2)) (pg_name (i := 3) sc_place_by.nd rfl (by first | exact Or.inl rfl | exact Or.inr rfl))
        (pss_one (ps_if (pt_cmpR op_ne (pv 1) (pe_glob (v := .int (-1)) rfl hLOST ⟨_, rfl⟩) (nomark _)) (pss_one (ps_set (i := 1) sc_place_by.nd rfl (by first | exact Or.inl rfl | exact Or.inr rfl) (pe_call (ok_place_behind T) (hr.mono (by decide)) (by rfl) T.place_behind.g T.place_behind.F.kp T.place_behind.b .nil pass0 (pa_cons (pv 0) (pa_cons (pv 1) (pa_cons (pv 3) pa_nil)))))) pss_nil)))
      (pss_one (ps_ret (pv 1))), ?_⟩
    dsimp only [cxOf]
    refine ⟨_, rfl, b, rfl, ⟨_, hb⟩, ?_⟩
    refine for_it (walk_tup (xs := q.map tx)) (fun i σ H' => ∃ g, σ = [some (.ref a), some (.int (M23.enc (runO p o (q.take i)))), some (.ref b), g] ∧ Same H H') ⟨none, by cases o <;> rfl, Same.refl _⟩ (fun i σ H' _ pp => by obtain ⟨_, _, e⟩ := pp; exact sqT_same hb e) (fun i v σ Ha Hb hi pp yy => ?_) (fun σ Hc pp => ?_)
    · obtain ⟨g, rfl, sa⟩ := pp
      obtain ⟨rfl, hv⟩ := yy
      rw [List.getElem?_map] at hv
      obtain ⟨x, hx, rfl⟩ := Option.map_eq_some_iff.mp hv
      have tk : q.take (i + 1) = q.take i ++ [x] := by rw [List.take_add_one, hx]; rfl
      have le := fun k (e : runO p o (q.take i) = some k) => runO_le ho e
      have sn := runO_snoc p o (q.take i) x
      rw [← tk] at sn
      generalize runO p o (q.take i) = z at *
      cases z with
      | none =>
        refine ⟨_, rfl, rfl, _, rfl, ?_⟩
        refine ite_f (by decide) ?_
        dsimp only [tNext]
        rw [sn]
        exact ⟨_, rfl, sa⟩
      | some j =>
        have hne : (!decide (V.int (M23.enc (some j)) = V.int (-1))) = true := by
          rw [Bool.not_eq_true', decide_eq_false_iff_not]
          intro e
          have := M23.enc_lost.mp (V.int.inj e)
          cases this
        refine ⟨_, rfl, rfl, _, rfl, ite_t hne ?_⟩
        refine ⟨_, rfl, _, rfl, _, rfl, .ref a, p, j, x, rfl, Dp.same sa hd, le j rfl, hz, hyl, hql x (List.mem_of_getElem? hx), fun H2 s2 => ?_⟩
        dsimp only [gName]
        rw [sn]
        exact ⟨_, rfl, sa.trans s2⟩
    · obtain ⟨g, rfl, sa⟩ := pp
      rw [List.length_map, List.take_length]
      exact ⟨_, rfl, k _ sa⟩
def spPlaceByT (K : PySem.W.Frag) : Sp := fun vs H Q _ => ∃ v t p o, vs = [v, .int (M23.enc o), tx t] ∧ Dp K H v (M23.dP p) ∧ (∀ i, o = some i → i ≤ p.length) ∧ p.length ≤ 1000 ∧ (∀ y ∈ p, y.length ≤ 10) ∧ t.length ≤ 2000 ∧ ∀ H', Same H H' → Q (.int (M23.enc (runO p o (M23.tP t)))) H'
theorem ok_place_byT (T : All K mg) : FnOk P w K mg base CX0 5 T.f_place_by T.d_place_by ["product", "place", "pieces"] (spPlaceByT K) := by
  refine T.place_by.F.ok sc_place_by (fun vs H Q E h => ?_) (fun cdv A outer s H vs Q E hr h => ?_)
  · obtain ⟨v, t, p, o, rfl, _⟩ := h
    rfl
  · obtain ⟨v, t, p, o, rfl, hd, ho, hz, hyl, hqz, k⟩ := h
    obtain ⟨t1, hLOST⟩ := T.c_LOST
    obtain ⟨a, rfl, hs⟩ := dp_pd hd
    refine ⟨_, pss_cons (ps_for PassesOwn.never rfl (pi_str (pv 2)) (pg_name (i := 3) sc_place_by.nd rfl (by first | exact Or.inl rfl | exact Or.inr rfl))
        (pss_one (ps_if (pt_cmpR op_ne (pv 1) (pe_glob (v := .int (-1)) rfl hLOST ⟨_, rfl⟩) (nomark _)) (pss_one (ps_set (i := 1) sc_place_by.nd rfl (by first | exact Or.inl rfl | exact Or.inr rfl) (pe_call (ok_place_behind T) (hr.mono (by decide)) (by rfl) T.place_behind.g T.place_behind.F.kp T.place_behind.b .nil pass0 (pa_cons (pv 0) (pa_cons (pv 1) (pa_cons (pv 3) pa_nil)))))) pss_nil)))
      (pss_one (ps_ret (pv 1))), ?_⟩
    refine ⟨_, rfl, tS t, rfl, ?_⟩
    refine for_it walk_tx (fun i σ H' => ∃ g, σ = [some (.ref a), some (.int (M23.enc (runO p o ((M23.tP t).take i)))), some (tx t), g] ∧ Same H H') ⟨none, by cases o <;> rfl, Same.refl _⟩ (fun _ _ _ _ _ => trivial) (fun i v σ Ha Hb hi pp yy => ?_) (fun σ Hc pp => ?_)
    · obtain ⟨g, rfl, sa⟩ := pp
      obtain ⟨rfl, c, hc, rfl⟩ := yy
      have tk : (M23.tP t).take (i + 1) = (M23.tP t).take i ++ [[c]] := by
        rw [List.take_add_one]
        unfold M23.tP
        rw [List.getElem?_map, hc]
        rfl
      have le := fun k (e : runO p o ((M23.tP t).take i) = some k) => runO_le ho e
      have sn := runO_snoc p o ((M23.tP t).take i) [c]
      rw [← tk] at sn
      generalize runO p o ((M23.tP t).take i) = z at *
      cases z with
      | none =>
        refine ⟨_, rfl, rfl, _, rfl, ?_⟩
        refine ite_f (by decide) ?_
        dsimp only [tNext]
        rw [sn]
        exact ⟨_, rfl, sa⟩
      | some j =>
        have hne : (!decide (V.int (M23.enc (some j)) = V.int (-1))) = true := by
          rw [Bool.not_eq_true', decide_eq_false_iff_not]
          intro e
          have := M23.enc_lost.mp (V.int.inj e)
          cases this
        refine ⟨_, rfl, rfl, _, rfl, ite_t hne ?_⟩
        refine ⟨_, rfl, _, rfl, _, rfl, .ref a, p, j, [c], rfl, Dp.same sa hd, le j rfl, hz, hyl, by simp, fun H2 s2 => ?_⟩
        dsimp only [gName]
        rw [sn]
        exact ⟨_, rfl, sa.trans s2⟩
    · obtain ⟨g, rfl, sa⟩ := pp
      have e : (M23.tP t).take t.length = M23.tP t := List.take_of_length_le (by unfold M23.tP; rw [List.length_map]; exact Nat.le_refl _)
      rw [e]
      exact ⟨_, rfl, k _ sa⟩
theorem enc_ne (o : Option Nat) : (!decide (V.int (M23.enc o) = V.int (-1))) = o.isSome := by
  cases o with
  | none => rfl
  | some j =>
    show _ = true
    rw [Bool.not_eq_true', decide_eq_false_iff_not]
    intro e
    have := M23.enc_lost.mp (V.int.inj e)
    cases this
def spHasText (K : PySem.W.Frag) : Sp := fun vs H Q _ => ∃ v t p, vs = [v, tx t] ∧ Dp K H v (M23.dP p) ∧ p.length ≤ 1000 ∧ (∀ y ∈ p, y.length ≤ 10) ∧ t.length ≤ 2000 ∧ ∀ H', Same H H' → Q (.bl (M23.runI p 0 (M23.tP t)).isSome) H'
theorem ok_has_text (T : All K mg) : FnOk P w K mg base CX0 6 T.f_has_text T.d_has_text ["product", "text"] (spHasText K) := by
  refine T.has_text.F.ok sc_has_text (fun vs H Q E h => ?_) (fun cdv A outer s H vs Q E hr h => ?_)
  · obtain ⟨v, t, p, rfl, _⟩ := h
    rfl
  · obtain ⟨v, t, p, rfl, hd, hz, hyl, ht, q⟩ := h
    obtain ⟨t1, hLOST⟩ := T.c_LOST
    refine ⟨_, pss_one (ps_ret (pe_cmpR op_ne (pe_call (ok_place_byT T) (hr.mono (by decide)) (by rfl) T.place_by.g T.place_by.F.kp T.place_by.b .nil pass0 (pa_cons (pv 0) (pa_cons pe_int (pa_cons (pv 1) pa_nil)))) (pe_glob (v := .int (-1)) rfl hLOST ⟨_, rfl⟩) (by rfl))), ?_⟩
    refine ⟨_, rfl, _, rfl, v, t, p, some 0, rfl, hd, fun i e => by cases e; exact Nat.zero_le _, hz, hyl, ht, fun H1 s1 => ⟨rfl, ?_⟩⟩
    have e := enc_ne (runO p (some 0) (M23.tP t))
    dsimp only
    rw [e]
    exact q _ s1
def spLies (K : PySem.W.Frag) : Sp := fun vs H Q _ => ∃ v u p q, vs = [v, u] ∧ Dp K H v (M23.dP p) ∧ Dp K H u (M23.dP q) ∧ p.length ≤ 1000 ∧ q.length ≤ 1000 ∧ (∀ y ∈ p, y.length ≤ 10) ∧ (∀ y ∈ q, y.length ≤ 10) ∧ ∀ H', Same H H' → Q (.bl (M23.runI q 0 p).isSome) H'
theorem ok_lies_within (T : All K mg) : FnOk P w K mg base CX0 6 T.f_lies_within T.d_lies_within ["one", "other"] (spLies K) := by
  refine T.lies_within.F.ok sc_lies_within (fun vs H Q E h => ?_) (fun cdv A outer s H vs Q E hr h => ?_)
  · obtain ⟨v, u, p, q, rfl, _⟩ := h
    rfl
  · obtain ⟨v, u, p, q, rfl, hd, hu, hz, hz2, hyl, hyl2, k⟩ := h
    obtain ⟨t1, hLOST⟩ := T.c_LOST
    refine ⟨_, pss_one (ps_ret (pe_cmpR op_ne (pe_call (ok_place_byP T) (hr.mono (by decide)) (by rfl) T.place_by.g T.place_by.F.kp T.place_by.b .nil pass0 (pa_cons (pv 1) (pa_cons pe_int (pa_cons (pv 0) pa_nil)))) (pe_glob (v := .int (-1)) rfl hLOST ⟨_, rfl⟩) (by rfl))), ?_⟩
    refine ⟨_, rfl, _, rfl, u, v, q, some 0, p, rfl, hu, fun i e => by cases e; exact Nat.zero_le _, hz2, hyl2, by omega, hyl, hd, fun H1 s1 => ⟨rfl, ?_⟩⟩
    have e := enc_ne (runO q (some 0) p)
    dsimp only
    rw [e]
    exact k _ s1
end
end Lw
namespace Lw
open PySem PySem.Spec PyProof.Rows L3
open L2 hiding del del_same del_ne
/-- a while, what is known behind it told apart -/
theorem while_fin {c : TT} {tb : TS} {D : Ends} {σ : L2.St} {H : Hp} (W : Nat → L2.St → Hp → Prop) (Fin : L2.St → Hp → Prop) (h0 : ∃ m, W m σ H)
    (hs : ∀ m σ H, W m σ H → ∀ Kc : Bool → Hp → Prop, (∀ H1, tb { D with nx := fun σ' H' => ∃ m', m' < m ∧ W m' σ' H', ct := fun σ' H' => ∃ m', m' < m ∧ W m' σ' H', bk := D.nx } σ H1 → Kc true H1) → (∀ H1, Fin σ H1 → Kc false H1) → c σ H Kc)
    (hf : ∀ σ H, Fin σ H → D.nx σ H) : tWhile c tb D σ H := by
  refine ⟨W, h0, fun m σ H w => hs m σ H w _ (fun H1 h => ?_) (fun H1 h => ?_)⟩
  · exact iteT ⟨fun σ' H' => ∃ m', m' < m ∧ W m' σ' H', fun σ' H' p => p, h⟩
  · exact iteF (hf _ _ h)
/-- letters that can be told -/
def TxOk (x : List Nat) : Prop := (∀ c ∈ x, c < 1114112) ∧ x.length ≤ 10
theorem PcOk.tx {sg x : List Nat} (hl : Lets sg) (h : PcOk sg x) : TxOk x := by
  refine ⟨?_, Nat.le_trans (h.len hl) (by decide)⟩
  rcases h with ⟨c, hc, rfl⟩ | ⟨l, h1, h2, h3, rfl⟩
  · intro d hd
    rw [List.mem_singleton.mp hd]
    have := (hl.az c hc).2
    omega
  · intro d hd
    rcases List.mem_append.mp hd with hd | hd
    · have := (hl.az d (h3 d hd)).2; omega
    · rw [List.mem_singleton.mp hd]; decide
theorem wt_txs {l : List (List Nat)} {n : Nat} (h : ∀ x ∈ l, TxOk x) (hn : l.length ≤ n) : Wt (.list (dTx l)) (11 * n) 1 := by
  refine Wt.list (w := 10) (k := 0) (fun d hd => ?_) (by unfold dTx; rw [List.length_map]; exact hn)
  obtain ⟨t, ht, rfl⟩ := List.mem_map.mp hd
  exact Wt.text (h t ht).1 (h t ht).2
theorem eq_nil (l : List (List Nat)) : PyData.eqv (.list (dTx l)) (.list []) = l.isEmpty := by cases l <;> rfl
theorem rev_last (y : List Nat) (g : List (List Nat)) : (y :: g).reverse.map tx = g.reverse.map tx ++ [tx y] := by rw [List.reverse_cons, List.map_append]; rfl
section
variable {P : Program} {w : World} {K : PySem.W.Frag} {mg : Str → Option Value} {base : Heap}
def spReduced (K : PySem.W.Frag) : Sp := fun vs H Q _ => ∃ v p, vs = [v] ∧ Dp K H v (M23.dP p) ∧ p.length ≤ 100 ∧ (∀ y ∈ p, TxOk y) ∧ ∀ H' a, Same H H' → H a = none → H' a = some (.tup ((M23.redOf p).map tx)) → Q (.ref a) H'
theorem ok_reduced_of (T : All K mg) : FnOk P w K mg base CX0 4 T.f_reduced_of T.d_reduced_of ["product"] (spReduced K) := by
  refine T.reduced_of.F.ok sc_reduced_of (fun vs H Q E h => ?_) (fun cdv A outer s H vs Q E hr h => ?_)
  · obtain ⟨v, p, rfl, _⟩ := h
    rfl
  · obtain ⟨v, p, rfl, hd, hz, hyl, k⟩ := h
    obtain ⟨a, rfl, hs⟩ := dp_pd hd
    refine ⟨_, pss_cons (ps_set (i := 1) sc_reduced_of.nd rfl (by first | exact Or.inl rfl | exact Or.inr rfl) (pe_lst pa_nil))
      (pss_cons (ps_for PassesOwn.never rfl (pi_tup (pv 0)) (pg_name (i := 2) sc_reduced_of.nd rfl (by first | exact Or.inl rfl | exact Or.inr rfl))
        (pss_cons (ps_while PassesOwn.never (PW.pt (pw_and (pt_cmpR (op_neD (u64 hr)) (pv 1) (pe_lst pa_nil) (nomark _)) (pw_and (pt_val (pe_call (ok_is_star T) (hr.mono (by decide)) (by rfl) T.is_star.g T.is_star.F.kp T.is_star.b .nil pass0 (pa_cons (pv 2) pa_nil))) (pw_and1 (pt_val (pe_call (ok_holds T) (hr.mono (by decide)) (by rfl) T.holds.g T.holds.F.kp T.holds.b .nil pass0 (pa_cons (pv 2) (pa_cons (pe_ix ix_list (pv 1) (pe_un un_neg pe_int) (fun _ _ => rfl)) pa_nil))))))))
        (pss_one (ps_expr (pe_bm0 PySem.F.plainAttrs_list PySem.F.slot_list_pop PySem.F.type_list_pop mt_pop (pv 1)))))
      (pss_one (ps_if (PW.pt (pw_or (pt_cmpR (op_eqD (u64 hr)) (pv 1) (pe_lst pa_nil) (nomark _)) (pw_or (pt_not (pt_val (pe_call (ok_is_star T) (hr.mono (by decide)) (by rfl) T.is_star.g T.is_star.F.kp T.is_star.b .nil pass0 (pa_cons (pe_ix ix_list (pv 1) (pe_un un_neg pe_int) (fun _ _ => rfl)) pa_nil)))) (pw_or1 (pt_not (pt_val (pe_call (ok_holds T) (hr.mono (by decide)) (by rfl) T.holds.g T.holds.F.kp T.holds.b .nil pass0 (pa_cons (pe_ix ix_list (pv 1) (pe_un un_neg pe_int) (fun _ _ => rfl)) (pa_cons (pv 2) pa_nil))))))))) (pss_one (ps_expr (pe_bm PySem.F.plainAttrs_list PySem.F.slot_list_append PySem.F.type_list_append mt_append (pv 1) (pa_cons (pv 2) pa_nil)))) pss_nil))))
      (pss_one (ps_ret (pe_callTy call_tuple_of (by rfl) T.b_tuple (show bootBuiltins "tuple" = some (.type "tuple") by decide +kernel) (pa_cons (pv 1) pa_nil))))), ?_⟩
    dsimp only [cxOf]
    refine ⟨by show 0 ≤ sizeLine; decide, fun F nF => ?_⟩
    have sF := same_upd (o := .lst []) nF
    dsimp only [gName]
    refine ⟨_, rfl, a, rfl, ⟨_, sqT_same hs sF⟩, ?_⟩
    refine for_it (walk_tup (xs := p.map tx)) (fun i σ H' => ∃ g, σ = [some (.ref a), some (.ref F), g] ∧ Same H H' ∧ H' F = some (.lst (((p.take i).foldl M23.push []).reverse.map tx))) ⟨none, rfl, sF, upd_same⟩ (fun i σ H' _ pp => by obtain ⟨_, _, e, _⟩ := pp; exact sqT_same hs e) (fun i v σ Ha Hb hi pp yy => ?_) (fun σ Hc pp => ?_)
    · obtain ⟨g, rfl, sa, hF⟩ := pp
      obtain ⟨rfl, hv⟩ := yy
      rw [List.getElem?_map] at hv
      obtain ⟨x, hx, rfl⟩ := Option.map_eq_some_iff.mp hv
      have tk : (p.take (i + 1)).foldl M23.push [] = M23.push ((p.take i).foldl M23.push []) x := by rw [List.take_add_one, hx, List.foldl_append]; rfl
      have hxk := hyl x (List.mem_of_getElem? hx)
      have hfm : ∀ y ∈ (p.take i).foldl M23.push [], TxOk y := fun y hy => (M23.fold_mem hy).elim (fun z => hyl y (List.mem_of_mem_take z)) fun z => by cases z
      have hfl : ((p.take i).foldl M23.push []).length ≤ 100 := by
        have := M23.fold_len (p.take i) []
        rw [List.length_take, List.length_nil] at this
        omega
      rw [tk]
      generalize (p.take i).foldl M23.push [] = f at *
      refine while_fin (fun m σ H' => ∃ f', m = f'.length ∧ σ = [some (.ref a), some (.ref F), some (tx x)] ∧ Same H H' ∧ H' F = some (.lst (f'.reverse.map tx)) ∧ M23.pops x f' = M23.pops x f ∧ (∀ y ∈ f', TxOk y) ∧ f'.length ≤ 100)
        (fun σ H' => ∃ f', σ = [some (.ref a), some (.ref F), some (tx x)] ∧ Same H H' ∧ H' F = some (.lst (f'.reverse.map tx)) ∧ M23.pops x f = f' ∧ (∀ y ∈ f', TxOk y) ∧ f'.length ≤ 100) ⟨_, f, rfl, rfl, sa, hF, rfl, hfm, hfl⟩ (fun m σ H1 hw Kc kt kf => ?_) (fun σ H1 hw => ?_)
      · obtain ⟨f', rfl, rfl, s1, hF1, hpop, hm1, hl1⟩ := hw
        refine ⟨_, rfl, by show 0 ≤ sizeLine; decide, fun E0' nE => ?_⟩
        have s2 := s1.trans (same_upd (o := .lst []) nE)
        have hF2 := same_upd (o := .lst []) nE _ _ hF1
        have hE2 := upd_same (H := H1) (a := E0') (o := .lst [])
        generalize upd H1 E0' (.lst []) = H2 at *
        refine ⟨.list (dTx f'.reverse), .list [], .lst (xs := f'.reverse.map tx) (.inl (.inl hF2)) (dp_txs _), .lst (.inl (.inl hE2)) .nil, (wt_txs (n := 100) (fun y hy => hm1 y (List.mem_reverse.mp hy)) (by rw [List.length_reverse]; exact hl1)).shaped (by decide), rfl, ?_⟩
        rw [eq_nil]
        cases f' with
        | nil => exact ⟨_, rfl, ite_f rfl (kf _ ⟨[], rfl, s2, hF2, hpop.symm, hm1, hl1⟩)⟩
        | cons y g' =>
          refine ⟨_, rfl, ite_t (by simp) ?_⟩
          have hyx := hm1 y List.mem_cons_self
          refine ⟨_, rfl, x, rfl, by have := hxk.2; omega, _, rfl, ite2 (fun e => ?_) (fun e => ?_)⟩
          · refine ⟨_, rfl, _, rfl, 1, rfl, F, _, _, tx y, rfl, rfl, .inl (.inl hF2), by rw [rev_last]; exact atI_last _ _, x, y, rfl, hxk.2, hyx.2, fun H3 s3 => ⟨_, rfl, ?_⟩⟩
            have s13 := s2.trans s3
            have hF3 := s3 _ _ hF2
            cases hh : M23.holds x y with
            | true =>
              refine kt _ ?_
              refine ⟨_, rfl, .inl ⟨rfl, _, .inl (.inl hF3)⟩, F, _, tx y, rfl, rfl, hF3, ?_, ?_⟩
              · rw [rev_last]; simp
              · refine ⟨g'.length, by simp, g', rfl, rfl, same_up s13 nF, ?_, ?_, fun z hz => hm1 z (List.mem_cons_of_mem _ hz), ?_⟩
                · rw [upd_same, rev_last, List.dropLast_concat]
                · rw [← hpop]
                  conv => rhs; unfold M23.pops
                  rw [e, hh]
                  rfl
                · have : (y :: g').length ≤ 100 := hl1
                  simp at this
                  omega
            | false =>
              refine kf _ ⟨y :: g', rfl, s13, hF3, ?_, hm1, hl1⟩
              rw [← hpop]
              unfold M23.pops
              rw [hh, Bool.and_false, if_neg (by decide)]
          · refine kf _ ⟨y :: g', rfl, s2, hF2, ?_, hm1, hl1⟩
            rw [← hpop]
            unfold M23.pops
            rw [Bool.eq_false_iff.mpr e, Bool.false_and, if_neg (by decide)]
      · obtain ⟨f', rfl, s1, hF1, hpop, hm1, hl1⟩ := hw
        have hpush : M23.push f x = match f' with | [] => [x] | y :: g => if M23.isS y && M23.holds y x then y :: g else x :: y :: g := by unfold M23.push; rw [hpop] <;> cases f' <;> rfl
        refine ⟨_, rfl, by show 0 ≤ sizeLine; decide, fun E0' nE => ?_⟩
        have s2 := s1.trans (same_upd (o := .lst []) nE)
        have hF2 := same_upd (o := .lst []) nE _ _ hF1
        have hE2 := upd_same (H := H1) (a := E0') (o := .lst [])
        generalize upd H1 E0' (.lst []) = H2 at *
        refine ⟨.list (dTx f'.reverse), .list [], .lst (xs := f'.reverse.map tx) (.inl (.inl hF2)) (dp_txs _), .lst (.inl (.inl hE2)) .nil, (wt_txs (n := 100) (fun y hy => hm1 y (List.mem_reverse.mp hy)) (by rw [List.length_reverse]; exact hl1)).shaped (by decide), rfl, ?_⟩
        rw [eq_nil]
        have hb : ∀ H3 : Hp, (f'.reverse.map tx).length < sizeLine := fun _ => by
          rw [List.length_map, List.length_reverse]; exact Nat.lt_of_le_of_lt hl1 (Nat.lt_of_lt_of_le (by decide : 100 < 1000) (sz (by decide)))
        have hrv : (x :: f').reverse.map tx = f'.reverse.map tx ++ [tx x] := rev_last x f'
        cases f' with
        | nil =>
          refine ⟨_, rfl, ite_t rfl ⟨_, rfl, .inl ⟨rfl, _, .inl (.inl hF2)⟩, _, rfl, F, _, _, rfl, rfl, hF2, hb H2, _, rfl, same_up s2 nF, ?_⟩⟩
          rw [upd_same, hpush]
          rfl
        | cons y g' =>
          refine ⟨_, rfl, ite_f (by simp) ?_⟩
          have hyx := hm1 y List.mem_cons_self
          refine ⟨_, rfl, 1, rfl, F, _, _, tx y, rfl, rfl, .inl (.inl hF2), by rw [rev_last]; exact atI_last _ _, y, rfl, by have := hyx.2; omega, _, rfl, ?_⟩
          cases e : M23.isS y with
          | false =>
            refine ite_t (by rfl) ⟨_, rfl, .inl ⟨rfl, _, .inl (.inl hF2)⟩, _, rfl, F, _, _, rfl, rfl, hF2, hb H2, _, rfl, same_up s2 nF, ?_⟩
            rw [upd_same, hpush]
            dsimp only
            rw [e, Bool.false_and, if_neg (by decide), rev_last x]
          | true =>
            refine ite_f (by decide) ?_
            refine ⟨_, rfl, 1, rfl, F, _, _, tx y, rfl, rfl, .inl (.inl hF2), by rw [rev_last]; exact atI_last _ _, _, rfl, y, x, rfl, hyx.2, hxk.2, fun H3 s3 => ⟨_, rfl, ?_⟩⟩
            have s13 := s2.trans s3
            have hF3 := s3 _ _ hF2
            cases hh : M23.holds y x with
            | false =>
              refine ite_t (by rfl) ⟨_, rfl, .inl ⟨rfl, _, .inl (.inl hF3)⟩, _, rfl, F, _, _, rfl, rfl, hF3, hb H3, _, rfl, same_up s13 nF, ?_⟩
              rw [upd_same, hpush]
              dsimp only
              rw [hh, Bool.and_false, if_neg (by decide), rev_last x]
            | true =>
              refine ite_f (by decide) ⟨_, rfl, s13, ?_⟩
              rw [hF3, hpush]
              dsimp only
              rw [hh, e, Bool.and_true, if_pos rfl]
    · obtain ⟨g, rfl, sa, hF⟩ := pp
      rw [List.length_map, List.take_length] at hF
      refine ⟨_, rfl, F, _, rfl, .inl ⟨.inl (.inl hF), fun l nl => ?_⟩⟩
      have sl := same_upd (o := .tup ((((p.foldl M23.push []).reverse)).map tx)) nl
      exact k _ l (sa.trans sl) (sa.free nl) upd_same
end
end Lw
namespace Lw
open PySem PySem.Spec PyProof.Rows L3
open L2 hiding del del_same del_ne
theorem cr_anyK {X : Cx} {K : PySem.W.Frag} (h : X.K = K) (hc : X.calm = true) : CallR X (.builtin "any") (rAny K) := h ▸ cr_any hc
abbrev AP := Addr × M23.Pd
def rfs (bs : List AP) : List V := bs.map fun b => .ref b.1
def dd (es : List AP) (x : AP) : List AP := if x.2 ∈ es.map Prod.snd then es else es ++ [x]
def ddl (L : List AP) : List AP := L.foldl dd []
def encT (x : AP) : EntN := (M23.dP x.2, x.1, .bl true)
theorem keyNs_inj : ∀ {a b : List Str}, keyNs (a.map .str) = keyNs (b.map .str) → a = b
  | [], [], _ => rfl
  | [], _ :: _, h => by rw [List.map_nil, List.map_cons, keyNs, keyNs] at h; cases h
  | _ :: _, [], h => by rw [List.map_nil, List.map_cons, keyNs, keyNs] at h; cases h
  | x :: a, y :: b, h => by
    rw [List.map_cons, List.map_cons, keyNs, keyNs, keyN, keyN] at h
    injection h with h1 h2
    injection h1 with h1
    rw [h1, keyNs_inj h2]
theorem keyP_inj {p q : M23.Pd} (h : keyN (M23.dP p) = keyN (M23.dP q)) : p = q := by
  unfold M23.dP dS at h
  rw [keyN, keyN] at h
  injection h with h
  exact M23.sS_inj (keyNs_inj h)
theorem valP (v : V) (p : M23.Pd) : ∀ es : List AP, (valN (es.map fun x => (M23.dP x.2, x.1, v)) (keyN (M23.dP p))).isSome = decide (p ∈ es.map Prod.snd)
  | [] => rfl
  | x :: es => by
    have ih := valP v p es
    unfold valN at ih ⊢
    rw [List.map_cons, List.find?_cons, List.map_cons]
    by_cases e : x.2 = p
    · subst e
      rw [decide_eq_true rfl]
      simp
    · have n : ¬ keyN (M23.dP x.2) = keyN (M23.dP p) := fun z => e (keyP_inj z)
      rw [decide_eq_false (show ¬ keyN (M23.dP x.2, x.1, v).1 = keyN (M23.dP p) from n)]
      show _ = decide (p ∈ x.2 :: es.map Prod.snd)
      rw [show decide (p ∈ x.2 :: es.map Prod.snd) = decide (p ∈ es.map Prod.snd) from decide_eq_decide.mpr ⟨fun z => (List.mem_cons.mp z).elim (fun z => absurd z.symm e) id, List.mem_cons_of_mem _⟩]
      exact ih
theorem storeE_T (es : List AP) (x : AP) : L3.storeE (es.map encT) (encT x) = (dd es x).map encT := by
  have hv := valP (.bl true) x.2 es
  unfold L3.storeE dd
  show (if (valN (es.map encT) (keyN (M23.dP x.2))).isSome = true then _ else _) = _
  rw [show (valN (es.map encT) (keyN (M23.dP x.2))).isSome = decide (x.2 ∈ es.map Prod.snd) from hv]
  by_cases h : x.2 ∈ es.map Prod.snd
  · rw [if_pos (decide_eq_true h), if_pos h, List.map_map]
    refine List.map_congr_left fun y _ => ?_
    show (if keyN (M23.dP y.2) = keyN (M23.dP x.2) then (M23.dP y.2, y.1, V.bl true) else (M23.dP y.2, y.1, V.bl true)) = encT y
    split <;> rfl
  · rw [if_neg (by rw [decide_eq_false h]; decide), if_neg h, List.map_append]
    rfl
theorem storeAll_T : ∀ (L es : List AP), L3.storeAll (es.map encT) (L.map encT) = (L.foldl dd es).map encT
  | [], _ => rfl
  | x :: L, es => by
    show L3.storeAll (L3.storeE (es.map encT) (encT x)) (L.map encT) = _
    rw [storeE_T]
    exact storeAll_T L (dd es x)
theorem ddl_nodup : ∀ (L es : List AP), (es.map Prod.snd).Nodup → ((L.foldl dd es).map Prod.snd).Nodup
  | [], _, h => h
  | x :: L, es, h => ddl_nodup L _ (by
      unfold dd
      split
      · exact h
      · rename_i n
        rw [List.map_append]
        exact List.nodup_append.mpr ⟨h, by simp, fun a ha b hb => by
          rw [List.map_cons, List.map_nil, List.mem_singleton] at hb
          rw [hb]
          exact fun z => n (z ▸ ha)⟩)
theorem ddl_sub : ∀ (L es : List AP) (y : AP), y ∈ L.foldl dd es → y ∈ es ∨ y ∈ L
  | [], _, _, h => .inl h
  | x :: L, es, y, h => by
    rcases ddl_sub L _ y h with h | h
    · unfold dd at h
      split at h
      · exact .inl h
      · exact (List.mem_append.mp h).imp id fun z => by rw [List.mem_singleton.mp z]; exact List.mem_cons_self
    · exact .inr (List.mem_cons_of_mem _ h)
theorem ddl_mem : ∀ (L es : List AP) (p : M23.Pd), p ∈ (L.foldl dd es).map Prod.snd ↔ p ∈ es.map Prod.snd ∨ p ∈ L.map Prod.snd
  | [], _, _ => by simp
  | x :: L, es, p => by
    rw [show (x :: L).foldl dd es = L.foldl dd (dd es x) from rfl, ddl_mem L, List.map_cons, List.mem_cons]
    have : p ∈ (dd es x).map Prod.snd ↔ p ∈ es.map Prod.snd ∨ p = x.2 := by
      unfold dd
      split
      · rename_i h
        exact ⟨.inl, fun z => z.elim id fun e => e ▸ h⟩
      · rw [List.map_append, List.mem_append, List.map_cons, List.map_nil, List.mem_singleton]
    rw [this, or_assoc]
theorem ddl_len : ∀ (L es : List AP), (L.foldl dd es).length ≤ es.length + L.length
  | [], _ => Nat.le_refl _
  | x :: L, es => by
    have h := ddl_len L (dd es x)
    have : (dd es x).length ≤ es.length + 1 := by unfold dd; split <;> simp
    show (L.foldl dd (dd es x)).length ≤ _
    rw [List.length_cons]
    omega
theorem eqv_dP (p q : M23.Pd) : PyData.eqv (M23.dP p) (M23.dP q) = decide (p = q) := by
  have h := eqv_map (fun t : List Nat => PyData.str (tS t)) (fun a b => by
    show (tS a == tS b) = _
    by_cases e : a = b
    · subst e; simp
    · rw [decide_eq_false e]
      exact beq_eq_false_iff_ne.mpr fun z => e (tS_inj z)) p q
  have e : ∀ p : M23.Pd, M23.dP p = .tuple (p.map fun t => PyData.str (tS t)) := fun p => by unfold M23.dP dS M23.sS; rw [List.map_map]; rfl
  rw [e, e, PyData.eqv]
  exact h
theorem wt_dP {p : M23.Pd} {n : Nat} (h : ∀ x ∈ p, TxOk x) (hn : p.length ≤ n) : Wt (M23.dP p) (11 * n) 1 := by
  unfold M23.dP dS M23.sS
  rw [List.map_map]
  refine Wt.tuple (w := 10) (k := 0) (fun d hd => ?_) (by rw [List.length_map]; exact hn)
  obtain ⟨t, ht, rfl⟩ := List.mem_map.mp hd
  exact Wt.text (h t ht).1 (h t ht).2
def srtP (L : List AP) : List AP := L.mergeSort fun a b => M23.ple a.2 b.2
def txs (x : AP) : Addr × List Str := (x.1, M23.sS x.2)
theorem srt_txs (L : List AP) : srtS (L.map txs) = (srtP L).map txs := by
  unfold srtS srtP
  exact (List.map_mergeSort (f := txs) (r := fun a b : AP => M23.ple a.2 b.2) (s := PySem.W.dataLe false fun p : Addr × List Str => dS p.2) (l := L) (fun a _ b _ => rfl)).symm
theorem srtP_perm (L : List AP) : (srtP L).Perm L := List.mergeSort_perm _ _
theorem srtP_sorted (L : List AP) : (srtP L).Pairwise fun a b => M23.ple a.2 b.2 = true :=
  List.pairwise_mergeSort (le := fun a b : AP => M23.ple a.2 b.2) (fun a b c => M23.ple_trans a.2 b.2 c.2) (fun a b => M23.ple_total a.2 b.2) L
theorem srtP_canon (L : List AP) : (srtP (ddl L)).map Prod.snd = M23.canon (L.map Prod.snd) := by
  refine M23.canon_uniq ?_ ?_ fun x => ?_
  · exact ((srtP_perm _).map Prod.snd).nodup_iff.mpr (ddl_nodup L [] (by simp))
  · rw [List.pairwise_map]; exact srtP_sorted _
  · rw [((srtP_perm _).map Prod.snd).mem_iff]
    unfold ddl
    rw [ddl_mem]
    simp
theorem filter_kept (cs : List AP) (S : List M23.Pd) (h : cs.map Prod.snd = M23.canon S) : (cs.filter fun c => !(cs.any fun d => !decide (c.2 = d.2) && (M23.runI d.2 0 c.2).isSome)).map Prod.snd = M23.maxs S := by
  have e : (fun c : AP => !(cs.any fun d => !decide (c.2 = d.2) && (M23.runI d.2 0 c.2).isSome)) = (fun p => decide (∀ q ∈ M23.canon S, q ≠ p → M23.run q p = none)) ∘ Prod.snd := by
    funext c
    rw [Bool.eq_iff_iff]
    show _ ↔ decide _ = true
    rw [decide_eq_true_iff, ← h, Bool.not_eq_true', List.any_eq_false]
    constructor
    · intro z q hq hn
      obtain ⟨d, hd, rfl⟩ := List.mem_map.mp hq
      have := z d hd
      rw [Bool.and_eq_true, Bool.not_eq_true', decide_eq_false_iff_not] at this
      cases hr : M23.run d.2 c.2 with
      | none => rfl
      | some r => exact absurd ⟨fun e => hn e.symm, M23.runI_some.mpr (M23.run_emb.mp (by rw [hr]; rfl))⟩ this
    · intro z d hd
      rw [Bool.and_eq_true, Bool.not_eq_true', decide_eq_false_iff_not]
      rintro ⟨h1, h2⟩
      have h3 := z d.2 (List.mem_map_of_mem hd) fun e => h1 e.symm
      have h4 := M23.run_emb.mpr (M23.runI_some.mp h2)
      rw [h3] at h4
      cases h4
  unfold M23.maxs
  rw [e, ← List.filter_map, h]
section
variable {P : Program} {w : World} {K : PySem.W.Frag} {mg : Str → Option Value} {base : Heap}
/-- products as they lie: their addresses -/
def Prods (K : PySem.W.Frag) (H : Hp) (bs : List (Addr × M23.Pd)) : Prop := ∀ b ∈ bs, SqT K H b.1 (b.2.map tx)
theorem pd_dp {H : Hp} {a : Addr} {p : M23.Pd} (h : SqT K H a (p.map tx)) : Dp K H (.ref a) (M23.dP p) := by
  unfold M23.dP dS M23.sS
  rw [List.map_map]
  exact .tup h (dp_txs p)
/-- pairs of a product and True, as they lie -/
def PT (H : Hp) : List Addr → List AP → Prop := Paired fun t x => H t = some (.tup [.ref x.1, .bl true]) ∧ H x.1 = some (.tup (x.2.map tx))
theorem PT.same {H H' : Hp} {ts : List Addr} {L : List AP} (h : PT H ts L) (s : Same H H') : PT H' ts L := Paired.mapP h fun _ _ z => ⟨s _ _ z.1, s _ _ z.2⟩
theorem up_tup {H : Hp} {D a : Addr} {xs ys : List V} {o : HO} (hD : H D = some (.lst ys)) (h : H a = some (.tup xs)) : upd H D o a = some (.tup xs) := by
  rw [upd_ne (ne_of h hD fun z => by cases z)]
  exact h
theorem PT.up {H : Hp} {D : Addr} {ys : List V} {o : HO} {ts : List Addr} {L : List AP} (h : PT H ts L) (hD : H D = some (.lst ys)) : PT (upd H D o) ts L := Paired.mapP h fun _ _ z => ⟨up_tup hD z.1, up_tup hD z.2⟩
theorem Paired.snocP {α β : Type} {F : α → β → Prop} : ∀ {l : List α} {m : List β} {a : α} {b : β}, Paired F l m → F a b → Paired F (l ++ [a]) (m ++ [b])
  | _, _, _, _, .nil, h => .cons h .nil
  | _, _, _, _, .cons r t, h => .cons r (Paired.snocP t h)
theorem pt_pairs {H : Hp} {ts : List Addr} {L : List AP} (h : PT H ts L) : Paired (fun (t : Addr) (p : EntN) => SqT K H t [V.ref p.2.1, p.2.2]) ts (L.map encT) := by
  unfold PT at h
  induction h with
  | nil => exact .nil
  | cons h _ ih => exact .cons (.inl (.inl h.1)) ih
theorem keyables_strs : ∀ l : List Str, keyables (l.map .str) = true
  | [] => rfl
  | x :: l => by rw [List.map_cons, keyables, keyables_strs l]; rfl
theorem keyable_dP (p : M23.Pd) : keyable (M23.dP p) = true := by
  unfold M23.dP dS
  rw [keyable]
  exact keyables_strs _
theorem depth_strs : ∀ l : List Str, NestedKey.depthAll (keyNs (l.map .str)) = 0
  | [] => rfl
  | x :: l => by rw [List.map_cons, keyNs, NestedKey.depthAll, depth_strs l]; rfl
theorem depth_dP (p : M23.Pd) : (keyN (M23.dP p)).depth ≤ 8 := by
  unfold M23.dP dS
  rw [keyN, NestedKey.depth, depth_strs]
  decide
def spKeptOf (K : PySem.W.Frag) : Sp := fun vs H Q _ => ∃ (l : Addr) (bs : List (Addr × M23.Pd)), vs = [.ref l] ∧ (SqL K H l (rfs bs) ∨ SqT K H l (rfs bs)) ∧ Prods K H bs ∧ bs.length ≤ 20 ∧ (∀ b ∈ bs, b.2.length ≤ 100) ∧ (∀ b ∈ bs, ∀ y ∈ b.2, TxOk y) ∧
  ∀ H' p (cs : List (Addr × M23.Pd)), Same H H' → H p = none → H' p = some (.lst (rfs cs)) → Prods K H' cs → cs.map Prod.snd = M23.kept (bs.map Prod.snd) → Q (.ref p) H'
theorem ok_kept_of (T : All K mg) : FnOk P w K mg base CX0 7 T.f_kept_of T.d_kept_of ["products"] (spKeptOf K) := by
  refine T.kept_of.F.ok sc_kept_of (fun vs H Q E h => ?_) (fun cdv A outer s H vs Q E hr h => ?_)
  · obtain ⟨l, bs, rfl, _⟩ := h
    rfl
  · obtain ⟨l, bs, rfl, hl, hp, hz, hz2, hy, k⟩ := h
    refine ⟨_, pss_cons (ps_set (i := 1) sc_kept_of.nd rfl (by first | exact Or.inl rfl | exact Or.inr rfl) (pe_callB (cr_sortTD rfl (u64 hr)) (by rfl) T.b_sorted PyProof.Rows.boot_sorted (pa_cons (pe_callTy (cr_dictN rfl (u64 hr)) (by rfl) T.b_dict (show bootBuiltins "dict" = some (.type "dict") by decide +kernel) (pa_cons (pe_lc (own := [("product", 2)]) (g := gName 2) (tt := tYes) rfl sc_kept_of.nd (pi_sq (pv 0))
          (blkOk_by (own := [("product", 2)]) (N := ["products", "some", "product", "one", "other"]) (sc := defScope s_kept_of) (by decide +kernel))
          (fun _ _ _ _ _ => pg_name (i := 2) sc_kept_of.nd rfl (by first | exact Or.inl rfl | exact Or.inr rfl)) (fun _ _ _ _ _ => pts_nil)
          (fun _ _ _ _ _ => (pe_tup (pa_cons (pe_call (ok_reduced_of T) (hr.mono (by decide)) (by rfl) T.reduced_of.g T.reduced_of.F.kp T.reduced_of.b .nil pass0 (pa_cons (pv 2) pa_nil)) (pa_cons pe_bl pa_nil))))) pa_nil)) pa_nil)))
      (pss_one (ps_ret (pe_lc (own := [("one", 3)]) (g := gName 3) rfl sc_kept_of.nd (pi_list (pv 1))
          (blkOk_by (own := [("one", 3)]) (N := ["products", "some", "product", "one", "other"]) (sc := defScope s_kept_of) (by decide +kernel))
          (fun _ _ _ _ _ => pg_name (i := 3) sc_kept_of.nd rfl (by first | exact Or.inl rfl | exact Or.inr rfl)) (fun _ _ _ _ _ => (pts_one (pt_not (pt_val (pe_callB (cr_anyK (K := K) rfl rfl) (by rfl) T.b_any PyProof.Rows.boot_any (pa_cons (pe_lc (own := [("other", 4)]) (g := gName 4) (tt := tYes) rfl sc_kept_of.nd (pi_listK (K := K) rfl (pv 1))
          (blkOk_by (own := [("other", 4)]) (N := ["products", "some", "product", "one", "other"]) (by first | kernel_rfl | rfl))
          (fun _ _ _ _ _ => pg_name (i := 4) sc_kept_of.nd rfl (by first | exact Or.inl rfl | exact Or.inr rfl)) (fun _ _ _ _ _ => pts_nil)
          (fun _ _ _ _ _ => (pe_and (pe_cmpR (op_neDK (K := K) rfl (u64 hr)) (pv 3) (pv 4) (by rfl))
        (pe_one (pe_call (ok_lies_within T) (hr.mono (by decide)) (by rfl) T.lies_within.g T.lies_within.F.kp T.lies_within.b .nil pass0 (pa_cons (pv 3) (pa_cons (pv 4) pa_nil))))))) pa_nil))))))
          (fun _ _ _ _ _ => (pv 3))))), ?_⟩
    dsimp only [cxOf]
    have hS : Sq K H (.ref l) (rfs bs) := ⟨l, rfl, hl⟩
    have hbl : (rfs bs).length = bs.length := List.length_map _
    refine ⟨_, rfl, rfs bs, H, hS, Same.refl H, fun J G wk hG D nD => ?_⟩
    refine lc_it wk (fun i H' => Same H H' ∧ ∃ ts L, H' D = some (.lst (ts.map V.ref)) ∧ ts.length = i ∧ L.map Prod.snd = (bs.take i).map (fun b => M23.redOf b.2) ∧ PT H' ts L) ⟨same_upd nD, [], [], upd_same, rfl, rfl, .nil⟩ (fun i H' _ pp => hG H' pp.1) (fun i x H1 H2 hi pp yy => ?_) (fun H1 pp => ?_)
    · obtain ⟨s1, ts, L, hD, hts, hL, hP⟩ := pp
      obtain ⟨rfl, yy⟩ := yy
      rw [show (rfs bs)[i]? = (bs[i]?).map fun b => V.ref b.1 from List.getElem?_map] at yy
      obtain ⟨b, hb, rfl⟩ := Option.map_eq_some_iff.mp yy
      have hbm := List.mem_of_getElem? hb
      refine ⟨rfl, yes_te ?_⟩
      refine ⟨_, rfl, .ref b.1, b.2, rfl, pd_dp (sqT_same (hp b hbm) s1), hz2 b hbm, hy b hbm, fun H3 a s3 na ha => ⟨by show 2 ≤ sizeLine; decide, fun t nt => ?_⟩⟩
      have hD3 := s3 _ _ hD
      have st := same_upd (o := .tup [.ref a, .bl true]) nt
      have hDt := st _ _ hD3
      refine ⟨_, hDt, ?_, same_up ((s1.trans s3).trans st) nD, ts ++ [t], L ++ [(a, M23.redOf b.2)], ?_, ?_, ?_, ?_⟩
      · rw [List.length_map, hts]; exact Nat.lt_of_lt_of_le (by omega : i < 100) (sz (by decide))
      · rw [upd_same, List.map_append]; rfl
      · rw [List.length_append, hts]; rfl
      · rw [List.map_append, hL, List.take_add_one, hb, List.map_append]; rfl
      · refine PT.up (Paired.snocP (hP.same (s3.trans st)) ⟨upd_same, st _ _ ha⟩) hDt
    · obtain ⟨s1, ts, L, hD, hts, hL, hP⟩ := pp
      rw [hbl, ← hbl, hbl, List.take_length] at hL
      have hLl : L.length = bs.length := by have := congrArg List.length hL; simpa using this
      have hLm : L.map Prod.snd = (bs.map Prod.snd).map M23.redOf := by rw [hL, List.map_map]; rfl
      have hLz : ∀ x ∈ L, x.2.length ≤ 100 ∧ ∀ y ∈ x.2, TxOk y := fun x hx => by
        have : x.2 ∈ bs.map (fun b => M23.redOf b.2) := hL ▸ List.mem_map_of_mem hx
        obtain ⟨b, hb, e⟩ := List.mem_map.mp this
        rw [← e]
        exact ⟨Nat.le_trans (M23.redOf_len b.2) (hz2 b hb), fun y hm => hy b hb y (M23.redOf_mem hm)⟩
      have hLp : ∀ x ∈ L, H1 x.1 = some (.tup (x.2.map tx)) := by
        unfold PT at hP
        clear hL hLl hLm hLz hts hD
        induction hP with
        | nil => intro x hx; cases hx
        | cons h t ih =>
          intro x hx
          rcases List.mem_cons.mp hx with rfl | hx
          · exact h.2
          · exact ih x hx
      refine ⟨D, ts, L.map encT, rfl, .inl (.inl hD), ?_, ?_, fun dA ndA => ?_⟩
      · exact pt_pairs hP
      · exact fun x hx => by
          obtain ⟨y, hy', rfl⟩ := List.mem_map.mp hx
          exact ⟨pd_dp (.inl (.inl (hLp y hy'))), keyable_dP y.2, depth_dP y.2⟩
      · rw [show L3.storeAll [] (L.map encT) = (ddl L).map encT from storeAll_T L []]
        have s2 := same_upd (o := TN P w dA ((ddl L).map encT)) ndA
        have hds : ∀ x ∈ ddl L, x ∈ L := fun x hx => (ddl_sub L [] x hx).elim (fun z => by cases z) id
        refine ⟨dA, (ddl L).map encT, (ddl L).map txs, rfl, upd_same, ?_, ?_, fun sA nsA => ?_⟩
        · rw [List.map_map, List.map_map]; rfl
        · exact fun x hx => by
            obtain ⟨y, hy', rfl⟩ := List.mem_map.mp hx
            exact pd_dp (.inl (.inl (s2 _ _ (hLp y (hds y hy')))))
        · rw [srt_txs, List.map_map]
          have hS2 : ((fun p : Addr × List Str => V.ref p.1) ∘ txs) = fun b : AP => V.ref b.1 := rfl
          rw [hS2]
          have s3 := s2.trans (same_upd (o := .lst (rfs (srtP (ddl L)))) nsA)
          have hcan : (srtP (ddl L)).map Prod.snd = M23.canon ((bs.map Prod.snd).map M23.redOf) := by rw [srtP_canon, hLm]
          have hcm : ∀ x ∈ srtP (ddl L), x ∈ L := fun x hx => hds x ((srtP_perm _).mem_iff.mp hx)
          have hcl : (srtP (ddl L)).length ≤ 20 := by
            rw [(srtP_perm _).length_eq]
            have := ddl_len L []
            unfold ddl
            rw [List.length_nil] at this
            omega
          have hA : upd (upd H1 dA (TN P w dA (List.map encT (ddl L)))) sA (.lst (rfs (srtP (ddl L)))) sA = some (.lst (rfs (srtP (ddl L)))) := upd_same
          have hcp : ∀ x ∈ srtP (ddl L), upd (upd H1 dA (TN P w dA (List.map encT (ddl L)))) sA (.lst (rfs (srtP (ddl L)))) x.1 = some (.tup (x.2.map tx)) := fun x hx => s3 _ _ (hLp x (hcm x hx))
          have hcz : ∀ x ∈ srtP (ddl L), x.2.length ≤ 100 ∧ ∀ y ∈ x.2, TxOk y := fun x hx => hLz x (hcm x hx)
          have k2 : ∀ H', Same (upd (upd H1 dA (TN P w dA (List.map encT (ddl L)))) sA (.lst (rfs (srtP (ddl L))))) H' → ∀ p cs, H p = none → H' p = some (.lst (rfs cs)) → (∀ x ∈ cs, x ∈ srtP (ddl L)) → cs.map Prod.snd = M23.kept (bs.map Prod.snd) → Q (.ref p) H' := fun H' s4 p cs np hp' hsub e =>
            k H' p cs ((s1.trans s3).trans s4) np hp' (fun x hx => .inl (.inl (s4 _ _ (hcp x (hsub x hx))))) e
          have np2 : ∀ p, upd (upd H1 dA (TN P w dA (List.map encT (ddl L)))) sA (.lst (rfs (srtP (ddl L)))) p = none → H p = none := fun p hp' => (s1.trans s3).free hp'
          show gName 1 (.ref sA) _ (upd (upd H1 dA (TN P w dA (List.map encT (ddl L)))) sA (.lst (rfs (srtP (ddl L))))) _
          generalize upd (upd H1 dA (TN P w dA (List.map encT (ddl L)))) sA (.lst (rfs (srtP (ddl L)))) = HA at *
          generalize srtP (ddl L) = cs at *
          clear hds hLz hLp hP hLm hLl hL hts hD
          have hcs : (rfs cs).length = cs.length := List.length_map _
          refine ⟨_, rfl, sA, rfl, ⟨_, .inl (.inl hA)⟩, fun D2 nD2 => ?_⟩
          refine lc_gen (walk_list (xs := rfs cs)) (Same HA) (fun i acc => acc = rfs ((cs.take i).filter fun c => !(cs.any fun d => !decide (c.2 = d.2) && (M23.runI d.2 0 c.2).isSome))) (sz (by rw [hcs]; omega)) (fun i acc e => ?_) rfl (same_upd nD2) (fun _ _ h => same_up h nD2) (fun _ h => .inl (.inl (h _ _ hA))) (fun i x H2 H3 acc C N hi r hD ha y c n => ?_) (fun H2 xs r hD ha => ?_)
          · rw [e]
            show (List.map _ _).length ≤ i
            rw [List.length_map]
            exact Nat.le_trans (List.length_filter_le _ _) (by rw [List.length_take]; omega)
          · obtain ⟨rfl, yy⟩ := y
            rw [show (rfs cs)[i]? = (cs[i]?).map fun b => V.ref b.1 from List.getElem?_map] at yy
            obtain ⟨b, hb, rfl⟩ := Option.map_eq_some_iff.mp yy
            have hbm := List.mem_of_getElem? hb
            refine ⟨rfl, ?_⟩
            have hfil : (cs.take (i + 1)).filter (fun c => !(cs.any fun d => !decide (c.2 = d.2) && (M23.runI d.2 0 c.2).isSome)) = (cs.take i).filter (fun c => !(cs.any fun d => !decide (c.2 = d.2) && (M23.runI d.2 0 c.2).isSome)) ++ if (!(cs.any fun d => !decide (b.2 = d.2) && (M23.runI d.2 0 b.2).isSome)) = true then [b] else [] := by
              rw [List.take_add_one, hb, List.filter_append]
              show _ ++ List.filter _ [b] = _
              rw [List.filter_cons]
              rfl
            rw [hfil] at c n
            refine ⟨_, rfl, sA, rfl, ⟨_, .inl (.inl (r _ _ hA))⟩, fun D3 nD3 => ?_⟩
            refine lc_gen (walk_list (xs := rfs cs)) (Same H3) (fun j acc2 => acc2 = (cs.take j).map fun d => V.bl (!decide (b.2 = d.2) && (M23.runI d.2 0 b.2).isSome)) (sz (by rw [hcs]; omega)) (fun i acc e => by rw [e, List.length_map, List.length_take]; omega) rfl (same_upd nD3) (fun _ _ h => same_up h nD3) (fun _ h => .inl (.inl (h _ _ (r _ _ hA)))) (fun j x H4 H5 acc2 C2 N2 hj r4 hD4 ha2 y2 c2 n2 => ?_) (fun H4 xs r4 hD4 ha2 => ?_)
            · obtain ⟨rfl, yy2⟩ := y2
              rw [show (rfs cs)[j]? = (cs[j]?).map fun b => V.ref b.1 from List.getElem?_map] at yy2
              obtain ⟨d, hd, rfl⟩ := Option.map_eq_some_iff.mp yy2
              have hdm := List.mem_of_getElem? hd
              have r5 := r.trans r4
              have db : Dp K H5 (.ref b.1) (M23.dP b.2) := pd_dp (.inl (.inl (r5 _ _ (hcp b hbm))))
              have de : Dp K H5 (.ref d.1) (M23.dP d.2) := pd_dp (.inl (.inl (r5 _ _ (hcp d hdm))))
              have zb := hcz b hbm
              have zd := hcz d hdm
              refine ⟨rfl, yes_te ?_⟩
              refine ⟨_, rfl, _, rfl, _, _, db, de, (wt_dP zb.2 zb.1).shaped (by decide), (wt_dP zd.2 zd.1).shaped (by decide), ?_⟩
              rw [eqv_dP]
              refine ⟨_, rfl, ite2 (fun e => ?_) (fun e => ?_)⟩
              · refine ⟨_, rfl, _, rfl, _, _, _, _, rfl, db, de, by omega, by omega, fun y hy' => (zb.2 y hy').2, fun y hy' => (zd.2 y hy').2, fun H6 s6 => c2 _ _ (r4.trans s6) (s6 _ _ hD4) ?_⟩
                rw [ha2, List.take_add_one, hd, List.map_append]
                show _ ++ [_] = _ ++ [V.bl (!decide (b.2 = d.2) && (M23.runI d.2 0 b.2).isSome)]
                rw [e, Bool.true_and]
              · refine c2 _ _ r4 hD4 ?_
                rw [ha2, List.take_add_one, hd, List.map_append]
                show _ ++ [_] = _ ++ [V.bl (!decide (b.2 = d.2) && (M23.runI d.2 0 b.2).isSome)]
                rw [Bool.eq_false_iff.mpr e, Bool.false_and]
            · subst ha2
              rw [hcs, List.take_length] at hD4
              refine ⟨D3, cs.map fun d => !decide (b.2 = d.2) && (M23.runI d.2 0 b.2).isSome, rfl, .inl (.inl (by rw [hD4, List.map_map]; rfl)), ?_⟩
              rw [List.any_map]
              refine ⟨_, rfl, ?_⟩
              cases hany : cs.any (id ∘ fun d => !decide (b.2 = d.2) && (M23.runI d.2 0 b.2).isSome) with
              | true =>
                have hany' : (cs.any fun d => !decide (b.2 = d.2) && (M23.runI d.2 0 b.2).isSome) = true := hany
                rw [hany', if_neg (by decide), List.append_nil] at n
                exact ite_f (by decide) (n _ (r.trans r4) (r4 _ _ hD) ha)
              | false =>
                have hany' : (cs.any fun d => !decide (b.2 = d.2) && (M23.runI d.2 0 b.2).isSome) = false := hany
                rw [hany', if_pos (by decide)] at c
                refine ite_t (by decide) ⟨_, rfl, c _ _ (r.trans r4) (r4 _ _ hD) ?_⟩
                rw [ha]
                unfold rfs
                rw [List.map_append]
                rfl
          · subst ha
            rw [hcs, List.take_length] at hD
            exact k2 H2 r D2 _ (np2 _ nD2) hD (fun x hx => (List.mem_filter.mp hx).1) (filter_kept cs _ hcan)
end
end Lw
namespace Lw
open PySem PySem.Spec PyProof.Rows L3
open L2 hiding del del_same del_ne
theorem putF_len (f : Str) (v : V) : ∀ fs : List (Str × V), (putF f v fs).length ≤ fs.length + 1
  | [] => Nat.le_refl _
  | (g, x) :: fs => by
    unfold putF
    split
    · exact Nat.le_succ _
    · rw [List.length_cons, List.length_cons]
      exact Nat.succ_le_succ (putF_len f v fs)
theorem putF_lt {f : Str} {v : V} {fs : List (Str × V)} {n : Nat} (h : fs.length ≤ n) (hn : n + 1 < 1000) : (putF f v fs).length < 1000 := Nat.lt_of_le_of_lt (Nat.le_trans (putF_len f v fs) (Nat.succ_le_succ h)) hn
/-- products as a tuple, as a list -/
def dPT (kp : List M23.Pd) : PyData := .tuple (kp.map M23.dP)
def dPL (kp : List M23.Pd) : PyData := .list (kp.map M23.dP)
/-- a sum at a -/
structure SumO (C : Addr) (K : PySem.W.Frag) (H : Hp) (a : Addr) (sg : List Nat) (kp : List M23.Pd) : Prop where
  at_ : ∃ dx t, H a = some (.ins C dx [("own_letters", tx sg), ("own_products", .ref t)]) ∧ Dp K H (.ref t) (dPT kp)
theorem SumO.same {C : Addr} {K : PySem.W.Frag} {H H' : Hp} {a : Addr} {sg : List Nat} {kp : List M23.Pd} (h : SumO C K H a sg kp) (s : Same H H') : SumO C K H' a sg kp := by
  obtain ⟨⟨dx, t, h1, h2⟩⟩ := h
  exact ⟨⟨dx, t, s _ _ h1, Dp.same s h2⟩⟩
section
variable {P : Program} {w : World} {K : PySem.W.Frag} {mg : Str → Option Value} {base : Heap}
theorem aps {H : Hp} : ∀ {ps : List M23.Pd} {xs : List V}, DpAll K H xs (ps.map M23.dP) → ∃ bs : List AP, xs = rfs bs ∧ bs.map Prod.snd = ps ∧ Prods K H bs
  | [], _, .nil => ⟨[], rfl, rfl, fun b h => by cases h⟩
  | p :: ps, _, .cons h1 h2 => by
    obtain ⟨bs, rfl, rfl, h3⟩ := aps h2
    obtain ⟨a, rfl, h4⟩ := dp_pd h1
    exact ⟨(a, p) :: bs, rfl, rfl, fun b hb => by
      rcases List.mem_cons.mp hb with rfl | hb
      · exact h4
      · exact h3 b hb⟩
theorem aps_dp {H : Hp} : ∀ {bs : List AP}, Prods K H bs → DpAll K H (rfs bs) ((bs.map Prod.snd).map M23.dP)
  | [], _ => .nil
  | b :: bs, h => .cons (pd_dp (h b List.mem_cons_self)) (aps_dp fun c hc => h c (List.mem_cons_of_mem _ hc))
/-- products handed in: a list or a tuple -/
def Bun (K : PySem.W.Frag) (H : Hp) (v : V) (ps : List M23.Pd) : Prop := ∃ bs : List AP, Sq K H v (rfs bs) ∧ bs.map Prod.snd = ps ∧ Prods K H bs
theorem Prods.same {H H' : Hp} {bs : List AP} (h : Prods K H bs) (s : Same H H') : Prods K H' bs := fun b hb => sqT_same (h b hb) s
theorem Bun.same {H H' : Hp} {v : V} {ps : List M23.Pd} (h : Bun K H v ps) (s : Same H H') : Bun K H' v ps := by
  obtain ⟨bs, h1, h2, h3⟩ := h
  exact ⟨bs, h1.same s, h2, h3.same s⟩
def spWantLets : Sp := fun vs H Q _ => ∃ sg, vs = [tx sg] ∧ Lets sg ∧ ∀ H', Same H H' → Q .non H'
theorem ok_want_letters (T : All K mg) : FnOk P w K mg base CX0 3 T.f_want_letters T.d_want_letters ["letters"] spWantLets := by
  refine T.want_letters.F.ok sc_want_letters (fun vs H Q E h => ?_) (fun cdv A outer s H vs Q E hr h => ?_)
  · obtain ⟨sg, rfl, _⟩ := h
    rfl
  · obtain ⟨sg, rfl, hl, q⟩ := h
    refine ⟨_, pss_one (ps_if (pt_not (pt_val (pe_call (ok_are_letters T) (hr.mono (by decide)) (by rfl) T.are_letters.g T.are_letters.F.kp T.are_letters.b .nil pass0 (pa_cons (pv 0) pa_nil)))) (pss_one ps_never) pss_nil), ?_⟩
    exact ⟨_, rfl, sg, rfl, hl, fun H1 s1 => ⟨true, rfl, ite_f (by decide) (q _ s1)⟩⟩
def spInit (K : PySem.W.Frag) (C : Addr) : Sp := fun vs H Q _ => ∃ (x dx : Addr) (sg : List Nat) (v : V) (ps : List M23.Pd), vs = [.ref x, tx sg, v] ∧ H x = some (.ins C dx []) ∧ Lets sg ∧ Bun K H v ps ∧ (∀ p ∈ ps, PdOk sg p) ∧ ps.length ≤ 20 ∧ (∀ p ∈ ps, p.length ≤ 100) ∧
  ∀ H', (∀ b o, H b = some o → b ≠ x → H' b = some o) → SumO C K H' x sg (M23.kept ps) → Q .non H'
theorem ok_Sum_init (T : All K mg) : FnOk P w K mg base CX0 8 T.f_Sum_init T.d_Sum_init ["self", "letters", "products"] (spInit K T.C_Sum) := by
  refine T.Sum_init.F.ok sc_Sum_init (fun vs H Q E h => ?_) (fun cdv A outer s H vs Q E hr h => ?_)
  · obtain ⟨x, dx, sg, v, ps, rfl, _⟩ := h
    rfl
  · obtain ⟨x, dx, sg, v, ps, rfl, hx, hl, hB, hok, hz, hz2, q⟩ := h
    refine ⟨_, pss_cons (ps_expr (pe_call (ok_want_letters T) (hr.mono (by decide)) (by rfl) T.want_letters.g T.want_letters.F.kp T.want_letters.b .nil pass0 (pa_cons (pv 1) pa_nil)))
      (pss_cons (ps_if (pt_not (pt_val (pe_call (ok_is_list T) (hr.mono (by decide)) (by rfl) T.is_list.g T.is_list.F.kp T.is_list.b .nil pass0 (pa_cons (pv 2) pa_nil)))) (pss_one ps_never) pss_nil)
      (pss_cons (ps_for PassesOwn.never rfl (pi_enumS rfl T.b_enumerate (pa_cons (pv 2) pa_nil)) (pg_tup rfl (pgs_cons (pg_name (i := 3) sc_Sum_init.nd rfl (by first | exact Or.inl rfl | exact Or.inr rfl)) (pgs_cons (pg_name (i := 4) sc_Sum_init.nd rfl (by first | exact Or.inl rfl | exact Or.inr rfl)) pgs_nil)))
        (pss_one (ps_if (pt_not (pt_val (pe_call (ok_is_product_over T) (hr.mono (by decide)) (by rfl) T.is_product_over.g T.is_product_over.F.kp T.is_product_over.b .nil pass0 (pa_cons (pv 1) (pa_cons (pv 4) pa_nil))))) (pss_one ps_never) pss_nil)))
      (pss_cons (ps_set (i := 5) sc_Sum_init.nd rfl (by first | exact Or.inl rfl | exact Or.inr rfl) (pe_call (ok_kept_of T) (hr.mono (by decide)) (by rfl) T.kept_of.g T.kept_of.F.kp T.kept_of.b .nil pass0 (pa_cons (pv 2) pa_nil)))
      (pss_cons (ps_expr (pe_call (ok_want_few T) (hr.mono (by decide)) (by rfl) T.want_few.g T.want_few.F.kp T.want_few.b .nil pass0 (pa_cons pe_str (pa_cons (pe_callB call_len_seq (by rfl) T.b_len PySem.boot_len (pa_cons (pv 5) pa_nil)) (pa_cons (ClX.pe_cval (pe_glob (v := .ref T.C_Sum) rfl T.g_Sum rfl)) pa_nil)))))
      (pss_cons (ps_fld (pv 0) (pv 1) rfl)
      (pss_one (ps_fld (pv 0) (pe_callTy call_tuple_of (by rfl) T.b_tuple (show bootBuiltins "tuple" = some (.type "tuple") by decide +kernel) (pa_cons (pv 5) pa_nil)) rfl))))))), ?_⟩
    refine ⟨_, rfl, sg, rfl, hl, fun H1 s1 => ?_⟩
    obtain ⟨bs, hS, hps, hP⟩ := hB
    refine ⟨_, rfl, v, rfs bs, rfl, hS.same s1, fun H2 s2 => ⟨true, rfl, iteF ?_⟩⟩
    have s12 := s1.trans s2
    obtain ⟨aa, rfl, hSS⟩ := id hS
    obtain ⟨y, ey, hy⟩ := sq_src hS
    refine ⟨_, rfl, y, rfs bs, congrArg (fun z => [z]) ey, hy _ s12, for_it walk_enumS (fun i σ H' => ∃ p r, σ = [some (.ref x), some (tx sg), some (.ref aa), p, r, none] ∧ Same H H') ⟨none, none, rfl, s12⟩ (fun i σ H' _ p => by obtain ⟨_, _, _, sm⟩ := p; exact hy _ sm) (fun i x' σ H3 H4 hi p y => ?_) (fun σ H3 p => ?_)⟩
    · obtain ⟨p0, r0, rfl, sm⟩ := p
      obtain ⟨Tp, x1, x2, rfl, nT, rfl, e1, e2⟩ := y
      cases e1
      have e2 : (rfs bs)[i]? = some x2 := e2
      rw [show (rfs bs)[i]? = (bs[i]?).map fun b => V.ref b.1 from List.getElem?_map] at e2
      obtain ⟨b, hb, rfl⟩ := Option.map_eq_some_iff.mp e2
      have hbm := List.mem_of_getElem? hb
      have sm2 := same_up (o := .tup [.int (i : Nat), .ref b.1]) sm (sm.free nT)
      have hpm : b.2 ∈ ps := hps ▸ List.mem_map_of_mem hbm
      refine ⟨Tp, _, rfl, .inl (.inl upd_same), rfl, _, _, rfl, _, _, rfl, rfl, ?_⟩
      refine ⟨_, rfl, _, rfl, sg, .ref b.1, b.2, rfl, hl, hok _ hpm, Nat.le_trans (hz2 _ hpm) (by decide), pd_dp (sqT_same (hP b hbm) sm2), fun H5 s5 => ⟨true, rfl, iteF ⟨_, _, rfl, sm2.trans s5⟩⟩⟩
    · obtain ⟨p0, r0, rfl, s3⟩ := p
      have hbz : bs.length ≤ 20 := by rw [← hps, List.length_map] at hz; exact hz
      refine ⟨_, rfl, aa, bs, rfl, hSS.elim (fun h => .inl (sq_same h s3)) (fun h => .inr (sqT_same h s3)), hP.same s3, hbz, fun b hb => hz2 _ (hps ▸ List.mem_map_of_mem hb), fun b hb y hy' => (hok _ (hps ▸ List.mem_map_of_mem hb) y hy').tx hl, fun H4 kp cs s4 nk hk hpr hcs => ?_⟩
      have s34 := s3.trans s4
      rw [hps] at hcs
      have hcl : cs.length ≤ 20 := by
        have := M23.kept_len ps
        rw [← hcs, List.length_map] at this
        omega
      obtain ⟨tk, hcv⟩ := T.cv_Sum_MOST_PRODUCTS
      refine ⟨_, rfl, kp, rfs cs, rfl, .inl (.inl (.inl hk)), T.C_Sum, _, _, _, rfl, T.cr_Sum, hcv, _, _, _, rfl, by unfold rfs; rw [List.length_map]; omega, ?_⟩
      refine ⟨_, rfl, _, rfl, x, T.C_Sum, dx, [], rfl, s34 _ _ hx, T.cl_Sum, T.n_Sum_own_letters, by decide, ?_⟩
      have hx4 := s34 _ _ hx
      have nkx : kp ≠ x := fun e => by rw [e, s3 _ _ hx] at nk; cases nk
      refine ⟨_, rfl, kp, rfs cs, rfl, .inl ⟨.inl (.inl (by rw [upd_ne nkx]; exact hk)), fun t nt => ?_⟩⟩
      have ntx : x ≠ t := fun e => by rw [← e, upd_same] at nt; cases nt
      have nt4 : H4 t = none := by rw [upd_ne ntx.symm] at nt; exact nt
      refine ⟨_, rfl, x, T.C_Sum, dx, _, rfl, by rw [upd_ne ntx, upd_same], T.cl_Sum, T.n_Sum_own_products, putF_lt (n := 0) (Nat.zero_le _) (by decide), ?_⟩
      have sd : Same (del H4 x) (upd (upd (upd H4 x (.ins T.C_Sum dx (putF "own_letters" (tx sg) []))) t (.tup (rfs cs))) x (.ins T.C_Sum dx (putF "own_products" (.ref t) (putF "own_letters" (tx sg) [])))) := fun b o e => by
        have nb : b ≠ x := fun z => by rw [z, del_at] at e; cases e
        rw [del_ne nb] at e
        rw [upd_ne nb, upd_ne (ne_of_none e nt4), upd_ne nb]
        exact e
      refine q _ (fun b o e nb => sd _ _ (by rw [del_ne nb]; exact s34 _ _ e)) ⟨⟨dx, t, upd_same, .tup (.inl (.inl (by rw [upd_ne ntx.symm, upd_same]))) ?_⟩⟩
      have ha := aps_dp hpr
      rw [hcs] at ha
      exact DpAll.same sd (dpAll_del hx4 ha)
end
end Lw
namespace L3
open PySem PySem.Spec PyProof.Rows L2
section
variable {X : Cx} {k : Nat} {g : List Code}
/-- {e!r}, e a list of data, empty ones too, while reprs are under way -/
def tFmtRE (K : PySem.W.Frag) (g : List Code) (te : TE) : TE := fun σ H Q => te σ H fun x H1 => ∃ (a : Addr) (d : PyData), x = .ref a ∧ Dp K H1 x d ∧ (∃ es, d = .list es) ∧ GOk H1 g ∧ d.showable = true ∧ d.shown.length ≤ sizeLine ∧ d.depth ≤ 50 ∧ Q (.str d.shown) H1
theorem pe_fmtRE {e : Expr} {te : TE} {pos : Pos} (hr : Room k X.A) (hG : X.A.guards = some g) (he : PE X e te) : PE X (.FormattedValue e 114 none pos) (tFmtRE X.K g te) := by
  refine ⟨fun pins s σ H Q I h => ?_⟩
  refine wpAny_FormattedValue_repr (thn (he.run pins s σ H _ I h) fun v s1 hv => ?_)
  obtain ⟨x, H1, I1, r1, a, d', rfl, hd, ⟨dss, rfl⟩, hgo, hs, hz, hdp, q⟩ := hv
  cases r1
  have hu := hr.units
  cases dss with
  | nil =>
    obtain ⟨as, hR⟩ := Dp.reads I1 _ (.ref a) (.ref a) hd rfl
    cases hR with
    | @list _ o vs n _ bs0 h1 h2 h3 h4 =>
      obtain ⟨lv⟩ := vs
      cases lv with
      | cons y ys => cases h4
      | nil =>
        refine wpAny_pyReprObj_list_empty ⟨o, h1, h2⟩ (by omega) h1 h3 ?_
        have hsh : (PyData.list []).shown = ("[]" : Str) := by decide +kernel
        rw [hsh] at q hz
        exact wpAny_formatField_str ⟨.str _, H1, I1.tok _, ⟨_, rfl⟩, q⟩ ⟨.str _, H1, (I1.tok _).tok _, ⟨_, rfl⟩, q⟩ hz
  | cons d ds =>
    obtain ⟨as, hR⟩ := Dp.reads I1 _ (.ref a) (.ref a) hd rfl
    have hcl : ∀ {b : Addr} {d' : PyData} {as' : List Addr}, Reads s1.heap (.ref b) d' as' → Clear g b := fun r => gok_clear I1 hgo r
    have hR0 := hR
    have hnd := dp_noDict (K := X.K) (H := H1) hd
    cases hR with
    | @list _ o vs n _ bs0 h1 h2 h3 h4 =>
      obtain ⟨lv⟩ := vs
      cases lv with
      | nil => cases h4
      | cons y ys =>
        have hz' : (listText (PyData.shownAll (d :: ds))).length ≤ sizeLine := by simpa only [PyData.shown] using hz
        obtain ⟨bs, hb, hk⟩ := ReprAllK.of_readsAll (prog := X.prog) (w := X.w) h4 (by simpa [PyData.showable] using hs) (fun hx => absurd hx (by
          have : PyData.hasDictAll (d :: ds) = false := by simpa [PyData.hasDict] using hnd
          rw [this]; decide)) (fun t ht => Nat.le_trans (listText_mem_le ht) hz')
        have hna : a ∉ bs := not_mem_of_deeper hR0 (by simp only [PyData.depth]; omega) hb
        have hdd : PyData.depthAll (d :: ds) + 1 ≤ 50 := by simpa [PyData.depth] using hdp
        refine wpAny_pyReprObj_listK h1 h2 h3 hna (by simpa using hk.length_eq) (fun i y e => hk.item i y (by simpa using e)) hG (fun b hbm => ?_) (by omega) (fun _ _ e => e) (fun h' t tk hk' => ?_) hz'
        · rcases List.mem_cons.mp hbm with rfl | hbm
          · exact hcl hR0
          · obtain ⟨d', as', r', _⟩ := hb b hbm
            exact hcl r'
        · have hsh : (PyData.list (d :: ds)).shown = listText (PyData.shownAll (d :: ds)) := by simp only [PyData.shown]
          rw [← hsh]
          exact wpAny_formatField_str ⟨.str _, H1, I1.kept hk', ⟨_, rfl⟩, q⟩ ⟨.str _, H1, (I1.kept hk').tok _, ⟨_, rfl⟩, q⟩ hz
end
end L3
namespace Lw
open PySem PySem.Spec PyProof.Rows L3
open L2 hiding del del_same del_ne
def isTyV : Value → Bool
  | .type _ => true
  | _ => false
def plainTy (ty : String) : Bool := match PySem.fastBuiltinMro ty with
  | some l => l.all isTyV
  | none => false
theorem sub_plain {K : PySem.W.Frag} {C : Addr} {ty : String} (h : plainTy ty = true) : PySem.W.subIn K (.type ty) (.ref C) = some false := by
  unfold plainTy at h
  show (PySem.fastBuiltinMro ty).map (·.contains (.ref C)) = some false
  cases e : PySem.fastBuiltinMro ty with
  | none => rw [e] at h; cases h
  | some l =>
    rw [e] at h
    simp only [Option.map_some, Option.some.injEq]
    rw [← Bool.not_eq_true, List.contains_iff_mem]
    intro hm
    have := List.all_eq_true.mp h _ hm
    cases this
theorem first_plain {K : PySem.W.Frag} {C : Addr} {ty : String} (h : plainTy ty = true) : PySem.W.notFirst K C (.type ty) = true := by
  unfold PySem.W.notFirst
  rw [sub_plain h]
  simp
theorem first_own {K : PySem.W.Frag} {C : Addr} : PySem.W.notFirst K C (.ref C) = true := by
  unfold PySem.W.notFirst
  simp
theorem shownLen {d : PyData} {w k : Nat} (h : Wt d w k) : d.shown.length ≤ 12 * w + 10 := by
  have h1 := PyData.shown_le 10 (by decide) d h.l
  have h2 := h.w
  have h3 : (10 + 2) * d.weight ≤ 12 * w := Nat.mul_le_mul_left 12 h2
  omega
/-- products that can be told -/
def Few (kp : List M23.Pd) : Prop := kp.length ≤ 20 ∧ ∀ p ∈ kp, p.length ≤ 20 ∧ ∀ y ∈ p, TxOk y
theorem wt_dPL {kp : List M23.Pd} (h : Few kp) : Wt (dPL kp) (221 * 20) 2 := by
  refine Wt.list (w := 220) (k := 1) (fun d hd => ?_) (by rw [List.length_map]; exact h.1)
  obtain ⟨p, hp, rfl⟩ := List.mem_map.mp hd
  exact wt_dP (h.2 p hp).2 (h.2 p hp).1
theorem wt_dPT {kp : List M23.Pd} (h : Few kp) : Wt (dPT kp) (221 * 20) 2 := by
  refine Wt.tuple (w := 220) (k := 1) (fun d hd => ?_) (by rw [List.length_map]; exact h.1)
  obtain ⟨p, hp, rfl⟩ := List.mem_map.mp hd
  exact wt_dP (h.2 p hp).2 (h.2 p hp).1
theorem wt_sg {sg : List Nat} (h : Lets sg) : Wt (.str (tS sg)) 3 0 := Wt.text (fun c hc => by have := h.az c hc; omega) h.few
theorem eqv_prods (R S : List M23.Pd) : PyData.eqv (dPT R) (dPT S) = decide (R = S) := by
  show PyData.eqvAll _ _ = _
  exact eqv_map M23.dP eqv_dP R S
/-- how a sum is shown -/
def spk (sg : List Nat) (kp : List M23.Pd) : Str := ((((("Sum(" : Str) ++ reprText (tS sg)) ++ (", " : Str)) ++ (dPL kp).shown)) ++ (")" : Str)
theorem dpT_at {K : PySem.W.Frag} {H : Hp} {a : Addr} {kp : List M23.Pd} (h : Dp K H (.ref a) (dPT kp)) : ∃ bs : List AP, SqT K H a (rfs bs) ∧ bs.map Prod.snd = kp ∧ Prods K H bs := by
  obtain ⟨b, xs, e, h1, h2⟩ := dp_tuple h
  cases e
  obtain ⟨bs, rfl, h3, h4⟩ := aps h2
  exact ⟨bs, h1, h3, h4⟩
section
variable {P : Program} {w : World} {K : PySem.W.Frag} {mg : Str → Option Value} {base : Heap}
theorem ty_sum (T : All K mg) {H : Hp} {a : Addr} {sg : List Nat} {kp : List M23.Pd} (h : SumO T.C_Sum K H a sg kp) : TyX K H (.ref a) (.ref T.C_Sum) := by
  obtain ⟨dx, t, hat, _⟩ := h.at_
  exact .base (.ins hat T.cl_Sum T.ca_Sum T.cg_Sum T.ct_Sum (mro_obj T.mk_Sum))
theorem kit_own (T : All K mg) : PySem.W.kitOne K (.ref T.C_Sum) (.ref T.C_Sum) = some true := if_pos (beq_self_eq_true _)
theorem kit_plain (T : All K mg) {ty : String} (h : plainTy ty = true) : PySem.W.kitOne K (.type ty) (.ref T.C_Sum) = some false := by
  unfold PySem.W.kitOne
  rw [if_neg (by simp)]
  unfold PySem.W.kitCls
  obtain ⟨cd, hc, _⟩ := PySem.W.any_some T.cl_Sum.hd
  have e : ((PySem.W.clsIn K T.C_Sum).isSome && PySem.W.typeIn K (.ref T.C_Sum) == some (.type "type")) = true := by
    rw [hc, T.tt_Sum]
    simp
  simp only []
  rw [if_pos e]
  exact sub_plain h
theorem kit_nostr (T : All K mg) : PySem.W.kitOne K (.ref T.C_Sum) (.type "str") = some false := by
  unfold PySem.W.kitOne
  rw [if_neg (by simp)]
  show (if PySem.W.kitMeta "str" = true then PySem.W.mroIn K T.C_Sum (.type "str") else none) = some false
  rw [if_pos (by decide +kernel)]
  exact T.ns_Sum
def spLetters (K : PySem.W.Frag) (C : Addr) : Sp := fun vs H Q _ => ∃ a sg kp, vs = [.ref a] ∧ SumO C K H a sg kp ∧ Q (tx sg) H
theorem ok_Sum_letters (T : All K mg) : FnOk P w K mg base CX0 1 T.f_Sum_letters T.d_Sum_letters ["self"] (spLetters K T.C_Sum) := by
  refine T.Sum_letters.F.ok sc_Sum_letters (fun vs H Q E h => ?_) (fun cdv A outer s H vs Q E hr h => ?_)
  · obtain ⟨a, sg, kp, rfl, _⟩ := h
    rfl
  · obtain ⟨a, sg, kp, rfl, hM, q⟩ := h
    obtain ⟨dx, t, hat, hd⟩ := hM.at_
    refine ⟨_, pss_one (ps_ret (pe_fld (pv 0) rfl)), ?_⟩
    exact ⟨_, rfl, a, T.C_Sum, dx, _, _, rfl, hat, T.cl_Sum, T.n_Sum_own_letters, rfl, q⟩
def spProducts (K : PySem.W.Frag) (C : Addr) : Sp := fun vs H Q _ => ∃ a sg kp, vs = [.ref a] ∧ SumO C K H a sg kp ∧ ∀ p (bs : List AP), H p = none → bs.map Prod.snd = kp → Prods K H bs → Q (.ref p) (upd H p (.lst (rfs bs)))
theorem ok_Sum_products (T : All K mg) : FnOk P w K mg base CX0 1 T.f_Sum_products T.d_Sum_products ["self"] (spProducts K T.C_Sum) := by
  refine T.Sum_products.F.ok sc_Sum_products (fun vs H Q E h => ?_) (fun cdv A outer s H vs Q E hr h => ?_)
  · obtain ⟨a, sg, kp, rfl, _⟩ := h
    rfl
  · obtain ⟨a, sg, kp, rfl, hM, q⟩ := h
    obtain ⟨dx, t, hat, hd⟩ := hM.at_
    obtain ⟨bs, h1, h2, h3⟩ := dpT_at hd
    refine ⟨_, pss_one (ps_ret (pe_callTy call_list_of (by rfl) T.b_list PyProof.Rows.boot_list (pa_cons (pe_fld (pv 0) rfl) pa_nil))), ?_⟩
    exact ⟨_, rfl, a, T.C_Sum, dx, _, _, rfl, hat, T.cl_Sum, T.n_Sum_own_products, rfl, t, _, rfl, .inr h1, fun p np => q p bs np h2 h3⟩
def spLen (K : PySem.W.Frag) (C : Addr) : Sp := fun vs H Q _ => ∃ a sg kp, vs = [.ref a] ∧ SumO C K H a sg kp ∧ Q (.int (kp.length : Int)) H
theorem ok_Sum_len (T : All K mg) : FnOk P w K mg base CX0 1 T.f_Sum_len T.d_Sum_len ["self"] (spLen K T.C_Sum) := by
  refine T.Sum_len.F.ok sc_Sum_len (fun vs H Q E h => ?_) (fun cdv A outer s H vs Q E hr h => ?_)
  · obtain ⟨a, sg, kp, rfl, _⟩ := h
    rfl
  · obtain ⟨a, sg, kp, rfl, hM, q⟩ := h
    obtain ⟨dx, t, hat, hd⟩ := hM.at_
    obtain ⟨bs, h1, h2, h3⟩ := dpT_at hd
    refine ⟨_, pss_one (ps_ret (pe_callB call_len_seq (by rfl) T.b_len PySem.boot_len (pa_cons (pe_fld (pv 0) rfl) pa_nil))), ?_⟩
    refine ⟨_, rfl, a, T.C_Sum, dx, _, _, rfl, hat, T.cl_Sum, T.n_Sum_own_products, rfl, t, _, rfl, .inr h1, ?_⟩
    have e : (rfs bs).length = kp.length := by rw [← h2]; unfold rfs; rw [List.length_map, List.length_map]
    rw [e]
    exact q
def spEqS (K : PySem.W.Frag) (C : Addr) : Sp := fun vs H Q _ => ∃ (a : Addr) (v : V) (sg : List Nat) (kp : List M23.Pd), vs = [.ref a, v] ∧ SumO C K H a sg kp ∧ Few kp ∧
  ((∃ (b : Addr) (sg' : List Nat) (kp' : List M23.Pd), v = .ref b ∧ SumO C K H b sg' kp' ∧ Few kp' ∧ Q (.bl (decide (sg = sg') && decide (kp = kp'))) H) ∨ ∃ ty, TyX K H v (.type ty) ∧ plainTy ty = true ∧ Q (.bl false) H)
theorem ok_Sum_eq (T : All K mg) : FnOk P w K mg base CX0 1 T.f_Sum_eq T.d_Sum_eq ["self", "other"] (spEqS K T.C_Sum) := by
  refine T.Sum_eq.F.ok sc_Sum_eq (fun vs H Q E h => ?_) (fun cdv A outer s H vs Q E hr h => ?_)
  · obtain ⟨a, v, sg, kp, rfl, _⟩ := h
    rfl
  · obtain ⟨a, v, sg, kp, rfl, hM, hf, hh⟩ := h
    obtain ⟨dx, t, hat, hd⟩ := hM.at_
    refine ⟨_, pss_cons (ps_if (pt_not (pt_val (pe_callB call_isi (by rfl) T.b_isinstance boot_isinstance (pa_cons (pv 1) (pa_cons (pe_glob (v := .ref T.C_Sum) rfl T.g_Sum rfl) pa_nil))))) (pss_one (ps_ret pe_bl)) pss_nil)
      (pss_one (ps_ret (pe_and (pe_cmpR op_eq (pe_fld (pv 0) rfl) (pe_fld (pv 1) rfl) (by rfl))
        (pe_one (pe_cmpR (op_eqD (u64 hr)) (pe_fld (pv 0) rfl) (pe_fld (pv 1) rfl) (by rfl)))))), ?_⟩
    rcases hh with ⟨b, sg', kp', rfl, hM', hf', q⟩ | ⟨ty, hty, hp, q⟩
    · obtain ⟨dx', t', hat', hd'⟩ := hM'.at_
      refine ⟨_, rfl, _, .ref T.C_Sum, .ref T.C_Sum, .ref T.C_Sum, true, rfl, .own _, ty_sum T hM', kit_own T, true, rfl, iteF ?_⟩
      refine ⟨_, rfl, a, T.C_Sum, dx, _, _, rfl, hat, T.cl_Sum, T.n_Sum_own_letters, rfl, _, rfl, b, T.C_Sum, dx', _, _, rfl, hat', T.cl_Sum, T.n_Sum_own_letters, rfl, rfl, _, rfl, ?_⟩
      rw [tx_dec]
      by_cases e1 : sg = sg'
      · refine ite_t (by simp [e1]) ?_
        refine ⟨_, rfl, a, T.C_Sum, dx, _, _, rfl, hat, T.cl_Sum, T.n_Sum_own_products, rfl, _, rfl, b, T.C_Sum, dx', _, _, rfl, hat', T.cl_Sum, T.n_Sum_own_products, rfl, _, _, hd, hd', (wt_dPT hf).shaped (by decide), (wt_dPT hf').shaped (by decide), ?_⟩
        rw [eqv_prods]
        rw [decide_eq_true e1, Bool.true_and] at q
        exact q
      · refine ite_f (by simp [e1]) ?_
        rw [decide_eq_false e1, Bool.false_and] at q
        exact q
    · refine ⟨_, rfl, v, .ref T.C_Sum, .type ty, .ref T.C_Sum, false, rfl, .own _, hty, kit_plain T hp, false, rfl, iteT q⟩
def spIn (K : PySem.W.Frag) (C : Addr) : Sp := fun vs H Q _ => ∃ (a : Addr) (v : V) (sg : List Nat) (kp : List M23.Pd), vs = [.ref a, v] ∧ SumO C K H a sg kp ∧ Few kp ∧
  ((∃ t, v = tx t ∧ t.length ≤ 2000 ∧ ∀ H', Same H H' → Q (.bl ((t.all fun c => decide (c ∈ sg)) && kp.any fun p => (M23.runI p 0 (M23.tP t)).isSome)) H') ∨ ∃ ty, TyX K H v ty ∧ PySem.W.kitOne K ty (.type "str") = some false ∧ Q (.bl false) H)
theorem ok_Sum_contains (T : All K mg) : FnOk P w K mg base CX0 7 T.f_Sum_contains T.d_Sum_contains ["self", "value"] (spIn K T.C_Sum) := by
  refine T.Sum_contains.F.ok sc_Sum_contains (fun vs H Q E h => ?_) (fun cdv A outer s H vs Q E hr h => ?_)
  · obtain ⟨a, v, sg, kp, rfl, _⟩ := h
    rfl
  · obtain ⟨a, v, sg, kp, rfl, hM, hf, hh⟩ := h
    obtain ⟨dx, t0, hat, hd⟩ := hM.at_
    refine ⟨_, pss_one (ps_ret (pe_and (pe_call (ok_is_text_over T) (hr.mono (by decide)) (by rfl) T.is_text_over.g T.is_text_over.F.kp T.is_text_over.b .nil pass0 (pa_cons (pe_fld (pv 0) rfl) (pa_cons (pv 1) pa_nil)))
        (pe_one (pe_callB (cr_any rfl) (by rfl) T.b_any PyProof.Rows.boot_any (pa_cons (pe_lc (own := [("one", 2)]) (g := gName 2) (tt := tYes) rfl sc_Sum_contains.nd (pi_tup (pe_fld (pv 0) rfl))
          (blkOk_by (own := [("one", 2)]) (N := ["self", "value", "one"]) (sc := defScope s_Sum_contains) (by decide +kernel))
          (fun _ _ _ _ _ => pg_name (i := 2) sc_Sum_contains.nd rfl (by first | exact Or.inl rfl | exact Or.inr rfl)) (fun _ _ _ _ _ => pts_nil)
          (fun _ _ _ _ _ => (pe_call (ok_has_text T) (hr.mono (by decide)) (by rfl) T.has_text.g T.has_text.F.kp T.has_text.b .nil pass0 (pa_cons (pv 2) (pa_cons (pv 1) pa_nil))))) pa_nil))))), ?_⟩
    dsimp only [cxOf]
    refine ⟨_, rfl, a, T.C_Sum, dx, _, _, rfl, hat, T.cl_Sum, T.n_Sum_own_letters, rfl, _, rfl, sg, v, rfl, ?_⟩
    rcases hh with ⟨t, rfl, hz, q⟩ | ⟨ty, hty, hk, q⟩
    · refine .inl ⟨t, rfl, hz, fun H1 s1 => ⟨_, rfl, ?_⟩⟩
      cases hall : (t.all fun c => decide (c ∈ sg)) with
      | false =>
        refine iteF ?_
        rw [hall] at q
        exact q _ s1
      | true =>
        rw [hall] at q
        refine iteT ?_
        obtain ⟨bs, h1, h2, h3⟩ := dpT_at hd
        refine ⟨_, rfl, a, T.C_Sum, dx, _, _, rfl, s1 _ _ hat, T.cl_Sum, T.n_Sum_own_products, rfl, t0, rfl, ⟨_, sqT_same h1 s1⟩, fun D nD => ?_⟩
        have hbl : (rfs bs).length = bs.length := List.length_map _
        have hbk : bs.length ≤ 20 := by have := hf.1; rw [← h2, List.length_map] at this; exact this
        refine lc_gen (walk_tup (xs := rfs bs)) (Same H1) (fun j acc => acc = (bs.take j).map fun b => V.bl (M23.runI b.2 0 (M23.tP t)).isSome) (sz (by rw [hbl]; omega)) (fun i acc e => by rw [e, List.length_map, List.length_take]; omega) rfl (same_upd nD) (fun _ _ h => same_up h nD) (fun _ h => sqT_same h1 (s1.trans h)) (fun j x H4 H5 acc C N hj r hD ha y c n => ?_) (fun H4 xs r hD ha => ?_)
        · obtain ⟨rfl, yy⟩ := y
          rw [show (rfs bs)[j]? = (bs[j]?).map fun b => V.ref b.1 from List.getElem?_map] at yy
          obtain ⟨b, hb, rfl⟩ := Option.map_eq_some_iff.mp yy
          have hbm := List.mem_of_getElem? hb
          have hz2 := hf.2 b.2 (h2 ▸ List.mem_map_of_mem hbm)
          refine ⟨rfl, yes_te ?_⟩
          refine ⟨_, rfl, _, rfl, _, t, b.2, rfl, pd_dp (sqT_same (h3 b hbm) (s1.trans r)), Nat.le_trans hz2.1 (by decide), fun y hy => (hz2.2 y hy).2, hz, fun H6 s6 => c _ _ (r.trans s6) (s6 _ _ hD) ?_⟩
          rw [ha, List.take_add_one, hb, List.map_append]
          rfl
        · subst ha
          rw [hbl, List.take_length] at hD
          refine ⟨D, bs.map fun b => (M23.runI b.2 0 (M23.tP t)).isSome, rfl, .inl (.inl (by rw [hD, List.map_map]; rfl)), ?_⟩
          have e : (bs.map fun b => (M23.runI b.2 0 (M23.tP t)).isSome).any id = kp.any fun p => (M23.runI p 0 (M23.tP t)).isSome := by
            rw [← h2, List.any_map, List.any_map]
            rfl
          rw [e]
          have := q _ (s1.trans r)
          rw [Bool.true_and] at this
          exact this
    · exact .inr ⟨ty, hty, hk, false, rfl, iteF q⟩
def spRepr (K : PySem.W.Frag) (C : Addr) : Sp := fun vs H Q _ => ∃ (a : Addr) (sg : List Nat) (kp : List M23.Pd), vs = [.ref a] ∧ SumO C K H a sg kp ∧ Lets sg ∧ Few kp ∧ ∀ H', Same H H' → Q (.str (spk sg kp)) H'
theorem ok_Sum_repr (T : All K mg) : FnOkH P w K mg base CX0 2 T.f_Sum_repr T.d_Sum_repr ["self"] (spRepr K T.C_Sum) := by
  refine okH T.Sum_repr.F sc_Sum_repr (fun vs H Q E h => ?_) (fun cdv A outer s H vs Q E g hr hG hgo h => ?_)
  · obtain ⟨a, sg, kp, rfl, _⟩ := h
    rfl
  · obtain ⟨a, sg, kp, rfl, hM, hl, hf, q⟩ := h
    obtain ⟨dx, t, hat, hd⟩ := hM.at_
    have l1 : (reprText (tS sg)).length ≤ 46 := shownLen (wt_sg hl)
    have l2 := shownLen (wt_dPL hf)
    have c1 : ("Sum(" : Str).length = 4 := by decide +kernel
    have c2 : (", " : Str).length = 2 := by decide +kernel
    have c3 : (")" : Str).length = 1 := by decide +kernel
    have c0 : Str.empty.length = 0 := rfl
    refine ⟨_, pss_one (ps_ret (pe_joined (PJ.cons pe_str (PJ.cons (pe_fmtR (pe_fld (pv 0) rfl)) (PJ.cons pe_str (PJ.cons (pe_fmtRE hr hG (pe_callTy call_list_of (by rfl) T.b_list PyProof.Rows.boot_list (pa_cons (pe_fld (pv 0) rfl) pa_nil))) (PJ.cons pe_str PJ.nil))))))), ?_⟩
    dsimp only [cxOf]
    have z : ∀ n, n ≤ 1000000 → n ≤ sizeLine := fun n h => by rw [sizeLine_eq]; omega
    refine ⟨_, rfl, z _ (by rw [strLen_append]; omega), ?_⟩
    refine ⟨_, rfl, a, T.C_Sum, dx, _, _, rfl, hat, T.cl_Sum, T.n_Sum_own_letters, rfl, .inl ⟨_, rfl, z _ (by omega), _, rfl, z _ (by rw [strLen_append, strLen_append]; omega), ?_⟩⟩
    refine ⟨_, rfl, z _ (by rw [strLen_append, strLen_append, strLen_append]; omega), ?_⟩
    obtain ⟨bs, h1, h2, h3⟩ := dpT_at hd
    refine ⟨_, rfl, a, T.C_Sum, dx, _, _, rfl, hat, T.cl_Sum, T.n_Sum_own_products, rfl, t, rfs bs, rfl, .inr h1, fun p np => ?_⟩
    have s1 := same_upd (o := .lst (rfs bs)) np
    have sh1 := (wt_dPL hf).shw (by decide) (by decide)
    refine ⟨p, dPL kp, rfl, ?_, ⟨_, rfl⟩, hgo.same s1, sh1.s, sh1.z, sh1.p, _, rfl, z _ (by rw [strLen_append, strLen_append, strLen_append, strLen_append]; omega), ?_⟩
    · have ha := aps_dp (h3.same s1)
      rw [h2] at ha
      exact .lst (.inl (.inl upd_same)) ha
    refine ⟨_, rfl, z _ (by rw [strLen_append, strLen_append, strLen_append, strLen_append, strLen_append]; omega), ?_⟩
    have := q _ s1
    unfold spk at this
    rw [← Str.empty_append ("Sum(" : Str)] at this
    exact this
end
end Lw
namespace Lw
open PySem PySem.Spec PyProof.Rows L3
open L2 hiding del del_same del_ne
section
variable {P : Program} {w : World} {K : PySem.W.Frag} {mg : Str → Option Value} {base : Heap}
/-- a pot: two numbers -/
def Pot (H : Hp) (a : Addr) : Prop := ∃ x y : Int, H a = some (.lst [.int x, .int y]) ∧ 0 ≤ x ∧ 0 ≤ y ∧ y < 4294967296
/-- all but a stays -/
def Off (a : Addr) (H H' : Hp) : Prop := ∀ b o, H b = some o → b ≠ a → H' b = some o
theorem Off.refl (a : Addr) (H : Hp) : Off a H H := fun _ _ e _ => e
theorem Off.trans {a : Addr} {H H1 H2 : Hp} (x : Off a H H1) (y : Off a H1 H2) : Off a H H2 := fun b o e n => y b o (x b o e n) n
theorem Off.of {a : Addr} {H H' : Hp} (s : Same H H') : Off a H H' := fun b o e _ => s b o e
theorem Off.up {a p : Addr} {H H' : Hp} {o : HO} (x : Off a H H') (h : H p = none) : Off a H (upd H' p o) := fun b u e n => by
  rw [upd_ne (ne_of_none e h)]
  exact x b u e n
theorem Off.at {a : Addr} {H H' : Hp} {o : HO} (x : Off a H H') : Off a H (upd H' a o) := fun b u e n => by
  rw [upd_ne n]
  exact x b u e n
theorem Pot.some {H : Hp} {a : Addr} (h : Pot H a) : H a ≠ none := fun e => by
  obtain ⟨x, y, h, _⟩ := h
  rw [e] at h
  cases h
theorem Off.free {a : Addr} {H H' : Hp} (x : Off a H H') {l : Addr} (h : H' l = none) (hp : Pot H' a) : H l = none := by
  cases q : H l with
  | none => rfl
  | some o =>
    by_cases e : l = a
    · subst e
      exact absurd h hp.some
    · rw [x l o q e] at h
      cases h
theorem Off.seq {K : PySem.W.Frag} {a l : Addr} {H H' : Hp} {xs : List V} (x : Off a H H') (n : l ≠ a) (h : SqL K H l xs) : SqL K H' l xs := by
  rcases h with (h | ⟨o, h⟩) | h
  · exact .inl (.inl (x _ _ h n))
  · exact .inl (.inr ⟨o, x _ _ h n⟩)
  · exact .inr h
def spPot (K : PySem.W.Frag) : Sp := fun vs H Q _ => ∃ (a : Addr) (ns : List Int) (k : Nat), vs = [.ref a, .int (k : Int)] ∧ SqL K H a (ns.map V.int) ∧ k ≤ 10 ∧ ∀ H' p, Same H H' → H p = none → Pot H' p → Q (.ref p) H'
theorem pot_fin {H : Hp} {p : Addr} {z : Int} (x : Int) : Pot (upd H p (.lst [.int (if x > 0 then x else 0), .int (z % 2147483579 + 1)])) p := by
  refine ⟨_, _, upd_same, ?_, ?_, ?_⟩
  · split <;> omega
  · omega
  · omega
theorem ok_law_pot (T : All K mg) : FnOk P w K mg base CX0 1 T.f_law_pot T.d_law_pot ["_law_script", "_law_k"] (spPot K) := by
  refine T.law_pot.F.ok sc_law_pot (fun vs H Q E h => ?_) (fun cdv A outer s H vs Q E hr h => ?_)
  · obtain ⟨a, ns, k, rfl, _⟩ := h
    rfl
  · obtain ⟨a, ns, k, rfl, hS, hk, q⟩ := h
    refine ⟨_, pss_cons (ps_set (i := 2) sc_law_pot.nd rfl (by first | exact Or.inl rfl | exact Or.inr rfl) (pe_ifExp (pt_cmpR op_lt (pv 1) (pe_callB call_len_seq (by rfl) T.b_len PySem.boot_len (pa_cons (pv 0) pa_nil)) (nomark _)) (pe_callB call_abs (by rfl) T.b_abs PyProof.Rows.boot_abs (pa_cons (pe_ix ix_list (pv 0) (pv 1) (fun _ _ => rfl)) pa_nil)) (pe_op op_add (pe_op op_mul pe_int (pv 1)) pe_int)))
      (pss_one (ps_ret (pe_lst (pa_cons (pe_callB (call_max2 rfl) (by rfl) T.b_max PyProof.Rows.boot_max (pa_cons pe_int (pa_cons (pe_op op_sub (pv 2) (pe_op op_pow pe_int pe_int)) pa_nil))) (pa_cons (pe_op op_add (pe_op op_mod (pe_callTy call_int1 (by rfl) T.b_int PyProof.Rows.boot_int (pa_cons (pe_op op_add (pe_op op_add (pe_op op_mul (pe_op op_mod (pe_callTy call_int1 (by rfl) T.b_int PyProof.Rows.boot_int (pa_cons (pv 2) pa_nil)) pe_int) pe_int) (pe_op op_mul pe_int (pv 1))) pe_int) pa_nil)) pe_int) pe_int) pa_nil))))), ?_⟩
    dsimp only [cxOf]
    refine ⟨_, rfl, _, rfl, a, ns.map V.int, rfl, .inl hS, ?_⟩
    refine ⟨_, _, rfl, rfl, _, rfl, ite2 (fun e => ?_) (fun e => ?_)⟩
    · have hlt : k < ns.length := by
        have := of_decide_eq_true e
        rw [List.length_map] at this
        omega
      refine ⟨_, rfl, _, rfl, a, _, _, .int ns[k], rfl, rfl, hS, atI_nat (by rw [List.getElem?_map, List.getElem?_eq_getElem hlt]; rfl), _, rfl, ?_⟩
      refine ⟨_, rfl, 10, 18, rfl, rfl, ⟨by decide, by decide, by decide⟩, _, _, rfl, rfl, _, _, rfl, ?_⟩
      refine ⟨_, rfl, .inl ⟨_, rfl, _, _, rfl, rfl, (by show (0 : Int) < 2147483549; decide), _, _, rfl, rfl, .inr ⟨by decide, by decide⟩, _, rfl, _, _, rfl, rfl, .inl ⟨by decide, by decide⟩, _, _, rfl, rfl, _, _, rfl, rfl,
        .inl ⟨_, rfl, _, _, rfl, rfl, (by show (0 : Int) < 2147483579; decide), _, _, rfl, rfl, (by show 2 ≤ sizeLine; decide), fun p np => ?_⟩⟩⟩
      exact q _ p (same_upd np) np (pot_fin _)
    · refine ⟨_, rfl, _, _, rfl, rfl, .inl ⟨by decide, by decide⟩, _, _, rfl, rfl, ?_⟩
      refine ⟨_, rfl, 10, 18, rfl, rfl, ⟨by decide, by decide, by decide⟩, _, _, rfl, rfl, _, _, rfl, ?_⟩
      refine ⟨_, rfl, .inl ⟨_, rfl, _, _, rfl, rfl, (by show (0 : Int) < 2147483549; decide), _, _, rfl, rfl, .inr ⟨by decide, by decide⟩, _, rfl, _, _, rfl, rfl, .inl ⟨by decide, by decide⟩, _, _, rfl, rfl, _, _, rfl, rfl,
        .inl ⟨_, rfl, _, _, rfl, rfl, (by show (0 : Int) < 2147483579; decide), _, _, rfl, rfl, (by show 2 ≤ sizeLine; decide), fun p np => ?_⟩⟩⟩
      exact q _ p (same_upd np) np (pot_fin _)
def spDraw : Sp := fun vs H Q _ => ∃ (a : Addr) (n : Nat), vs = [.ref a, .int (n : Int)] ∧ Pot H a ∧ 0 < n ∧ n ≤ 1000000 ∧ ∀ (H' : Hp) (d : Nat), d < n → Pot H' a → Off a H H' → Q (.int (d : Int)) H'
theorem ix2_0 {x y : V} : ixN [x, y].length (0 : Int) = some 0 := rfl
theorem ix2_1 {x y : V} : ixN [x, y].length (1 : Int) = some 1 := rfl
theorem ok_law_draw (T : All K mg) : FnOk P w K mg base CX0 1 T.f_law_draw T.d_law_draw ["_law_pot_here", "_law_sides"] spDraw := by
  refine T.law_draw.F.ok sc_law_draw (fun vs H Q E h => ?_) (fun cdv A outer s H vs Q E hr h => ?_)
  · obtain ⟨a, n, rfl, _⟩ := h
    rfl
  · obtain ⟨a, n, rfl, hp, hn, hn2, q⟩ := h
    obtain ⟨x, y, ha, hx, hy, hy2⟩ := hp
    refine ⟨_, pss_cons (ps_if (pt_cmpR op_gt (pe_ix ix_list (pv 0) pe_int (fun _ _ => rfl)) pe_int (nomark _))
        (pss_cons (ps_asg (pe_callB call_divmod (by rfl) T.b_divmod PyProof.Rows.boot_divmod (pa_cons (pe_ix ix_list (pv 0) pe_int (fun _ _ => rfl)) (pa_cons (pv 1) pa_nil))) (pg_tup (by rfl) (pgs_cons (pg_sub (pv 0) pe_int set_list) (pgs_cons (pg_name (i := 2) sc_law_draw.nd rfl (.inl rfl)) pgs_nil))))
        (pss_one (ps_ret (pv 2)))) pss_nil)
      (pss_cons (ps_asg (pe_op op_mod (pe_callTy call_int1 (by rfl) T.b_int PyProof.Rows.boot_int (pa_cons (pe_op op_add (pe_op op_mul (pe_ix ix_list (pv 0) pe_int (fun _ _ => rfl)) pe_int) pe_int) pa_nil)) pe_int) (pg_sub (pv 0) pe_int set_list))
      (pss_one (ps_ret (pe_op op_mod (pe_callTy call_int1 (by rfl) T.b_int PyProof.Rows.boot_int (pa_cons (pe_op op_fdiv (pe_op op_mod (pe_callTy call_int1 (by rfl) T.b_int PyProof.Rows.boot_int (pa_cons (pe_op op_mul (pe_ix ix_list (pv 0) pe_int (fun _ _ => rfl)) (pe_ix ix_list (pv 0) pe_int (fun _ _ => rfl))) pa_nil)) pe_int) pe_int) pa_nil)) (pv 1))))), ?_⟩
    refine ⟨_, rfl, a, _, _, .int x, rfl, rfl, .inl (.inl ha), rfl, _, _, rfl, rfl, _, rfl, ite2 (fun e => ?_) (fun e => ?_)⟩
    · -- the pot's own digits
      have hx0 : 0 < x := of_decide_eq_true e
      refine ⟨_, rfl, a, _, _, .int x, rfl, rfl, .inl (.inl ha), rfl, _, rfl, x, n, rfl, ⟨by omega, by omega⟩, fun t nt => ?_⟩
      have nat' : a ≠ t := ne_of_none ha nt
      have ha2 : upd H t (.tup [.int (x / n), .int (x % n)]) a = some (.lst [.int x, .int y]) := by rw [upd_ne nat']; exact ha
      refine ⟨t, _, rfl, .inl (.inl upd_same), rfl, _, _, rfl, _, rfl, a, _, _, 0, rfl, rfl, ha2, ix2_0, _, _, rfl, rfl, ?_⟩
      have h0 := Int.emod_nonneg x (show (n : Int) ≠ 0 by omega)
      have h1 := Int.emod_lt_of_pos x (show (0 : Int) < (n : Int) by omega)
      obtain ⟨d, hd⟩ := Int.eq_ofNat_of_zero_le h0
      refine ⟨_, rfl, ?_⟩
      rw [hd]
      refine q _ d (by omega) ⟨x / n, y, upd_same, Int.ediv_nonneg hx (by omega), hy, hy2⟩ (Off.at (Off.up (Off.refl a H) nt))
    · -- the mixed number
      refine ⟨_, rfl, a, _, _, .int y, rfl, rfl, .inl (.inl ha), rfl, y, _, rfl, rfl, .inl ⟨by omega, by omega⟩, _, _, rfl, rfl, .inl ⟨_, rfl, _, _, rfl, rfl, (by show (0 : Int) < 2147483563; decide), ?_⟩⟩
      refine ⟨_, rfl, a, _, _, 1, rfl, rfl, ha, ix2_1, ?_⟩
      have hz := Int.emod_nonneg (y * 40009 + 1223) (show (2147483563 : Int) ≠ 0 by decide)
      have hz2 := Int.emod_lt_of_pos (y * 40009 + 1223) (show (0 : Int) < 2147483563 by decide)
      obtain ⟨z, hz0⟩ : ∃ z, (y * 40009 + 1223) % 2147483563 = z := ⟨_, rfl⟩
      have hA : upd H a (.lst ([V.int x, V.int y].set 1 ((fun i j => V.int (i % j)) (y * 40009 + 1223) 2147483563))) a = some (.lst [.int x, .int z]) := by
        rw [upd_same]
        show some (HO.lst [V.int x, V.int ((y * 40009 + 1223) % 2147483563)]) = _
        rw [hz0]
      rw [hz0] at hz hz2
      refine ⟨_, rfl, a, _, _, .int z, rfl, rfl, .inl (.inl hA), rfl, _, rfl, a, _, _, .int z, rfl, rfl, .inl (.inl hA), rfl, z, z, rfl, rfl, .inl ⟨by omega, by omega⟩,
        .inl ⟨_, rfl, _, _, rfl, rfl, (by show (0 : Int) < 2147483543; decide), _, _, rfl, rfl, ⟨by decide, by decide⟩, .inl ⟨_, rfl, _, rfl, _, _, rfl, rfl, (by show (0 : Int) < (n : Int); omega), ?_⟩⟩⟩
      have h0 := Int.emod_nonneg (z * z % 2147483543 / 17) (show (n : Int) ≠ 0 by omega)
      have h1 := Int.emod_lt_of_pos (z * z % 2147483543 / 17) (show (0 : Int) < (n : Int) by omega)
      obtain ⟨d, hd⟩ := Int.eq_ofNat_of_zero_le h0
      show Q (.int (z * z % 2147483543 / 17 % (n : Int))) _
      rw [hd]
      exact q _ d (by omega) ⟨x, z, hA, hx, hz, by omega⟩ (Off.at (Off.refl a H))
def spPick (K : PySem.W.Frag) : Sp := fun vs H Q _ => ∃ (a : Addr) (x : V), vs = [.ref a, x] ∧ Pot H a ∧
  ((∃ l : List Nat, x = tx l ∧ l ≠ [] ∧ l.length ≤ 1000 ∧ ∀ (H' : Hp) (c : Nat), c ∈ l → Pot H' a → Off a H H' → Q (tx [c]) H') ∨
   ∃ (b : Addr) (xs : List V), x = .ref b ∧ b ≠ a ∧ SqL K H b xs ∧ xs ≠ [] ∧ xs.length ≤ 1000 ∧ ∀ (H' : Hp) (v : V), v ∈ xs → Pot H' a → Off a H H' → Q v H')
theorem ok_law_pick (T : All K mg) : FnOk P w K mg base CX0 2 T.f_law_pick T.d_law_pick ["_law_pot_here", "_law_some_here"] (spPick K) := by
  refine T.law_pick.F.ok sc_law_pick (fun vs H Q E h => ?_) (fun cdv A outer s H vs Q E hr h => ?_)
  · obtain ⟨a, x, rfl, _⟩ := h
    rfl
  · obtain ⟨a, x, rfl, hp, h⟩ := h
    refine ⟨_, pss_one (ps_ret (pe_ix ix_seq (pv 1) (pe_call (ok_law_draw T) hr (by rfl) T.law_draw.g T.law_draw.F.kp T.law_draw.b .nil pass0 (pa_cons (pv 0) (pa_cons (pe_callB call_len (by rfl) T.b_len PySem.boot_len (pa_cons (pv 1) pa_nil)) pa_nil))) (fun _ _ => rfl))), ?_⟩
    rcases h with ⟨l, rfl, hl, hl2, q⟩ | ⟨b, xs, rfl, hba, hS, hl, hl2, q⟩
    · have hpos : 0 < l.length := List.length_pos_iff.mpr hl
      refine ⟨_, rfl, _, rfl, _, rfl, _, l.length, rfl, ⟨by rw [tS_len, sizeLine_eq]; omega, (tS_len l).symm⟩, a, l.length, rfl, hp, hpos, by omega, fun H' d hd hp' ho => ?_⟩
      refine .inr (.inr ⟨_, _, l[d], rfl, rfl, by rw [tS_len, sizeLine_eq]; omega, atI_nat (by simp [hd]), ?_⟩)
      exact q H' l[d] (List.getElem_mem hd) hp' ho
    · have hpos : 0 < xs.length := List.length_pos_iff.mpr hl
      refine ⟨_, rfl, _, rfl, _, rfl, _, xs.length, rfl, .inl ⟨xs, hS, rfl⟩, a, xs.length, rfl, hp, hpos, by omega, fun H' d hd hp' ho => ?_⟩
      refine .inl ⟨b, xs, _, xs[d], rfl, rfl, ho.seq hba hS, atI_nat (List.getElem?_eq_getElem hd), ?_⟩
      exact q H' xs[d] (List.getElem_mem hd) hp' ho
theorem Pot.up {H : Hp} {a p : Addr} {o : HO} (h : Pot H a) (n : a ≠ p) : Pot (upd H p o) a := by
  obtain ⟨x, y, e, r⟩ := h
  exact ⟨x, y, by rw [upd_ne n]; exact e, r⟩
theorem Pot.ne {H : Hp} {a p : Addr} (h : Pot H a) (e : H p = none) : a ≠ p := fun z => h.some (by rw [z]; exact e)
theorem Pot.same {H H' : Hp} {a : Addr} (h : Pot H a) (s : Same H H') : Pot H' a := by
  obtain ⟨x, y, e, r⟩ := h
  exact ⟨x, y, s _ _ e, r⟩
theorem perm_erase {α : Type} : ∀ {l : List α} {k : Nat} (h : k < l.length), (l[k] :: l.eraseIdx k).Perm l
  | a :: l, 0, _ => List.Perm.refl _
  | a :: l, k + 1, h => by
    have hk : k < l.length := by simpa using h
    have ih := perm_erase (l := l) (k := k) hk
    show (l[k] :: a :: l.eraseIdx k).Perm (a :: l)
    exact (List.Perm.swap a _ _).trans (List.Perm.cons a ih)
def spMixed (K : PySem.W.Frag) : Sp := fun vs H Q _ => ∃ (a b : Addr) (l : List V), vs = [.ref a, .ref b] ∧ Pot H a ∧ (SqL K H b l ∨ SqT K H b l) ∧ l.length ≤ 1000 ∧ ∀ H' p l', l'.Perm l → Pot H' a → Off a H H' → H p = none → H' p = some (.lst l') → Q (.ref p) H'
theorem ok_law_mixed (T : All K mg) : FnOk P w K mg base CX0 2 T.f_law_mixed T.d_law_mixed ["_law_pot_here", "_law_some_here"] (spMixed K) := by
  refine T.law_mixed.F.ok sc_law_mixed (fun vs H Q E h => ?_) (fun cdv A outer s H vs Q E hr h => ?_)
  · obtain ⟨a, b, l, rfl, _⟩ := h
    rfl
  · obtain ⟨a, b, l, rfl, hp, hS, hl, q⟩ := h
    refine ⟨_, pss_cons (ps_par rfl sc_law_mixed.nd (i := 2) (j := 3) rfl rfl (by decide) rfl rfl (pa_cons (pe_callTy call_list_of (by rfl) T.b_list PyProof.Rows.boot_list (pa_cons (pv 1) pa_nil)) (pa_cons (pe_lst pa_nil) pa_nil)) (by rfl))
      (pss_cons (ps_for PassesOwn.never rfl (pi_range1 rfl T.b_range (pa_cons (pe_callB call_len_seq (by rfl) T.b_len PySem.boot_len (pa_cons (pv 1) pa_nil)) pa_nil)) (pg_name (i := 4) sc_law_mixed.nd rfl (by first | exact Or.inl rfl | exact Or.inr rfl))
        (pss_one (ps_expr (pe_bm PySem.F.plainAttrs_list PySem.F.slot_list_append PySem.F.type_list_append mt_append (pv 3) (pa_cons (pe_bm PySem.F.plainAttrs_list PySem.F.slot_list_pop PySem.F.type_list_pop mt_popAt (pv 2) (pa_cons (pe_call (ok_law_draw T) (hr.mono (by decide)) (by rfl) T.law_draw.g T.law_draw.F.kp T.law_draw.b .nil pass0 (pa_cons (pv 0) (pa_cons (pe_callB call_len_seq (by rfl) T.b_len PySem.boot_len (pa_cons (pv 2) pa_nil)) pa_nil))) pa_nil)) pa_nil)))))
      (pss_one (ps_ret (pv 3)))), ?_⟩
    refine ⟨_, rfl, b, _, rfl, hS, fun L nL => ⟨by show 0 ≤ sizeLine; decide, fun F nF => ⟨_, _, rfl, ?_⟩⟩⟩
    have naL : a ≠ L := hp.ne nL
    have nFL : L ≠ F := fun e => by rw [← e, upd_same] at nF; cases nF
    have nF0 : H F = none := by rw [upd_ne nFL.symm] at nF; exact nF
    have naF : a ≠ F := hp.ne nF0
    have sLF := (same_upd (o := .lst l) nL).trans (same_upd (o := .lst []) nF)
    refine ⟨_, rfl, b, _, rfl, hS.elim (fun h => .inl (sq_same h sLF)) (fun h => .inr (sqT_same h sLF)), _, rfl, by omega, by omega, ?_⟩
    rw [show ((l.length : Int)).toNat = l.length by omega]
    refine for_it walk_range (fun i σ H' => ∃ t, σ = [some (.ref a), some (.ref b), some (.ref L), some (.ref F), t] ∧ Pot H' a ∧ Off a H H' ∧ ∃ l1 l2, H' L = some (.lst l1) ∧ H' F = some (.lst l2) ∧ l2.length = i ∧ l1.length + i = l.length ∧ (l2 ++ l1).Perm l)
      ⟨none, rfl, (hp.up naL).up naF, ((Off.refl a H).up nL).up nF0, l, [], by rw [upd_ne nFL, upd_same], upd_same, rfl, rfl, List.Perm.refl _⟩ (fun _ _ _ _ _ => trivial) (fun i x σ H2 H3 hi p y => ?_) (fun σ H2 p => ?_)
    · obtain ⟨t0, rfl, hp2, ho2, l1, l2, hL, hF, e1, e2, hpm⟩ := p
      obtain ⟨rfl, rfl⟩ := y
      refine ⟨_, rfl, .inl ⟨rfl, _, .inl (.inl hF)⟩, _, rfl, .inl ⟨rfl, _, .inl (.inl hL)⟩, _, rfl, _, rfl, L, _, rfl, .inl (.inl (.inl hL)), a, l1.length, rfl, hp2, by omega, by omega, fun H4 d hd hp4 ho4 => ?_⟩
      have hL4 := ho4 _ _ hL naL.symm
      have hF4 := ho4 _ _ hF naF.symm
      refine ⟨L, _, (d : Int), d, _, rfl, rfl, hL4, by omega, by omega, ?_, List.getElem?_eq_getElem hd, ?_⟩
      · unfold seqIndex?; simp; omega
      refine ⟨F, _, _, rfl, rfl, by rw [upd_ne nFL.symm]; exact hF4, Nat.lt_of_lt_of_le (by omega : l2.length < 1001) (sz (by omega)), ?_⟩
      refine ⟨_, rfl, (hp4.up naL).up naF, ((ho2.trans ho4).up nL).up nF0, l1.eraseIdx d, l2 ++ [l1[d]], ?_, ?_, ?_, ?_, ?_⟩
      · rw [upd_ne nFL, upd_same]
      · rw [upd_same]
      · rw [List.length_append, e1]; rfl
      · rw [List.length_eraseIdx_of_lt hd]; omega
      · rw [List.append_assoc]
        exact (List.Perm.append_left l2 (perm_erase hd)).trans hpm
    · obtain ⟨t0, rfl, hp2, ho2, l1, l2, hL, hF, e1, e2, hpm⟩ := p
      have : l1 = [] := List.eq_nil_of_length_eq_zero (by omega)
      subst this
      rw [List.append_nil] at hpm
      exact ⟨_, rfl, q _ F l2 hpm hp2 ho2 nF0 hF⟩
end
end Lw
namespace M23
abbrev Sv := List (Option Nat)
abbrev St := List Sv
def goO (p : Pd) (o : Option Nat) (c : Nat) : Option Nat := o.bind fun i => pb p i [c]
def nxV (ps : List Pd) (v : Sv) (c : Nat) : Sv := List.zipWith (fun p o => goO p o c) ps v
/-- where a text leads -/
def stV (ps : List Pd) (t : List Nat) : Sv := ps.map fun p => runI p 0 (tP t)
theorem stV_nil (ps : List Pd) : stV ps [] = ps.map fun _ => some 0 := rfl
theorem runI_snoc (p : Pd) (t : List Nat) (c : Nat) : runI p 0 (tP (t ++ [c])) = goO p (runI p 0 (tP t)) c := by
  rw [tP_append, runI_append]
  unfold goO
  cases runI p 0 (tP t) with
  | none => rfl
  | some k =>
    show (pb p k [c]).bind _ = pb p k [c]
    cases pb p k [c] <;> rfl
theorem stV_snoc (c : Nat) (t : List Nat) : ∀ ps : List Pd, stV ps (t ++ [c]) = nxV ps (stV ps t) c
  | [] => rfl
  | p :: ps => by
    have ih := stV_snoc c t ps
    unfold stV nxV at ih ⊢
    rw [List.map_cons, List.map_cons, List.zipWith_cons_cons, ih, runI_snoc]
def stS (ls : List (List Pd)) (t : List Nat) : St := ls.map fun ps => stV ps t
def nxS (ls : List (List Pd)) (s : St) (c : Nat) : St := List.zipWith (fun ps v => nxV ps v c) ls s
theorem stS_snoc (c : Nat) (t : List Nat) : ∀ ls : List (List Pd), stS ls (t ++ [c]) = nxS ls (stS ls t) c
  | [] => rfl
  | ps :: ls => by
    have ih := stS_snoc c t ls
    unfold stS nxS at ih ⊢
    rw [List.map_cons, List.map_cons, List.zipWith_cons_cons, ih, stV_snoc]
def opts (p : Pd) : List (Option Nat) := none :: (List.range (p.length + 1)).map some
def vecs : List Pd → List Sv
  | [] => [[]]
  | p :: D => (opts p).flatMap fun o => (vecs D).map fun v => o :: v
def cnt : List Pd → Nat
  | [] => 1
  | p :: D => (p.length + 2) * cnt D
theorem vecs_len : ∀ D : List Pd, (vecs D).length = cnt D
  | [] => rfl
  | p :: D => by
    unfold vecs cnt
    rw [List.length_flatMap]
    have : (opts p).map (fun o => ((vecs D).map fun v => o :: v).length) = List.replicate (p.length + 2) (cnt D) := by
      rw [show (fun o : Option Nat => ((vecs D).map fun v => o :: v).length) = fun _ => cnt D from funext fun o => by rw [List.length_map, vecs_len D], List.map_const']
      unfold opts
      rw [List.length_cons, List.length_map, List.length_range]
    rw [this, List.sum_replicate_nat]
theorem stV_vecs (t : List Nat) : ∀ D : List Pd, stV D t ∈ vecs D
  | [] => List.mem_singleton.mpr rfl
  | p :: D => by
    unfold vecs
    refine List.mem_flatMap.mpr ⟨runI p 0 (tP t), ?_, List.mem_map.mpr ⟨stV D t, stV_vecs t D, rfl⟩⟩
    unfold opts
    cases h : runI p 0 (tP t) with
    | none => exact List.mem_cons_self
    | some k =>
      refine List.mem_cons_of_mem _ (List.mem_map.mpr ⟨k, List.mem_range.mpr ?_, rfl⟩)
      have := runI_le (Nat.zero_le _) h
      omega
def look : List Pd → Sv → Pd → Option Nat
  | q :: D, o :: v, p => if q = p then o else look D v p
  | _, _, _ => none
theorem look_st (t : List Nat) {p : Pd} : ∀ {D : List Pd}, p ∈ D → look D (stV D t) p = runI p 0 (tP t)
  | q :: D, h => by
    unfold stV
    rw [List.map_cons]
    unfold look
    by_cases e : q = p
    · rw [if_pos e, e]
    · rw [if_neg e]
      exact look_st t ((List.mem_cons.mp h).resolve_left fun z => e z.symm)
def back (ls : List (List Pd)) (D : List Pd) (v : Sv) : St := ls.map fun ps => ps.map fun p => look D v p
theorem back_st {ls : List (List Pd)} {D : List Pd} (h : ∀ ps ∈ ls, ∀ p ∈ ps, p ∈ D) (t : List Nat) : back ls D (stV D t) = stS ls t := by
  unfold back stS
  refine List.map_congr_left fun ps hps => ?_
  unfold stV
  exact List.map_congr_left fun p hp => look_st t (h ps hps p hp)
theorem nodup_le {α : Type} [DecidableEq α] : ∀ {l m : List α}, l.Nodup → (∀ x ∈ l, x ∈ m) → l.length ≤ m.length
  | [], _, _, _ => Nat.zero_le _
  | x :: l, m, hn, h => by
    obtain ⟨h1, h2⟩ := List.nodup_cons.mp hn
    have hx := h x List.mem_cons_self
    have := nodup_le (m := m.erase x) h2 fun y hy => (List.mem_erase_of_ne fun e => h1 (by rw [← e]; exact hy)).mpr (h y (List.mem_cons_of_mem _ hy))
    rw [List.length_erase_of_mem hx] at this
    have := List.length_pos_of_mem hx
    rw [List.length_cons]
    omega
def Over (sg t : List Nat) : Prop := ∀ c ∈ t, c ∈ sg
structure Bf (sg : List Nat) (ls : List (List Pd)) (hit : St → Bool) (ks ws : List St) : Prop where
  runs : ∀ k ∈ ks, ∃ t, Over sg t ∧ stS ls t = k
  start : stS ls [] ∈ ks
  nod : ks.Nodup
  sub : ∀ w ∈ ws, w ∈ ks
  done : ∀ k ∈ ks, k ∈ ws ∨ (hit k = false ∧ ∀ c ∈ sg, nxS ls k c ∈ ks)
structure BfI (sg : List Nat) (ls : List (List Pd)) (hit : St → Bool) (ks ws : List St) (here : St) (j : Nat) : Prop where
  runs : ∀ k ∈ ks, ∃ t, Over sg t ∧ stS ls t = k
  start : stS ls [] ∈ ks
  nod : ks.Nodup
  sub : ∀ w ∈ ws, w ∈ ks
  done : ∀ k ∈ ks, k ∈ ws ∨ k = here ∨ (hit k = false ∧ ∀ c ∈ sg, nxS ls k c ∈ ks)
  mem : here ∈ ks
  upto : ∀ c ∈ sg.take j, nxS ls here c ∈ ks
variable {sg : List Nat} {ls : List (List Pd)} {hit : St → Bool} {ks ws : List St} {here : St} {j c : Nat}
theorem Bf.init : Bf sg ls hit [stS ls []] [stS ls []] :=
  ⟨fun k hk => ⟨[], (fun c h => by cases h), (List.mem_singleton.mp hk).symm⟩, List.mem_singleton.mpr rfl, by simp, fun w h => h, fun k h => .inl h⟩
theorem runs_len {D : List Pd} (hD : ∀ ps ∈ ls, ∀ p ∈ ps, p ∈ D) (runs : ∀ k ∈ ks, ∃ t, Over sg t ∧ stS ls t = k) (nod : ks.Nodup) : ks.length ≤ cnt D := by
  have := nodup_le (m := (vecs D).map (back ls D)) nod fun k hk => by
    obtain ⟨t, _, rfl⟩ := runs k hk
    exact List.mem_map.mpr ⟨stV D t, stV_vecs t D, back_st hD t⟩
  rw [List.length_map, vecs_len] at this
  exact this
theorem Bf.pop (h : Bf sg ls hit ks (here :: ws)) : BfI sg ls hit ks ws here 0 :=
  ⟨h.runs, h.start, h.nod, fun w hw => h.sub w (List.mem_cons_of_mem _ hw), fun k hk => (h.done k hk).elim (fun z => (List.mem_cons.mp z).elim (fun e => .inr (.inl e)) .inl) (fun z => .inr (.inr z)), h.sub _ List.mem_cons_self, fun c hc => by simp at hc⟩
theorem BfI.old (h : BfI sg ls hit ks ws here j) (hc : sg[j]? = some c) (hm : nxS ls here c ∈ ks) : BfI sg ls hit ks ws here (j + 1) :=
  ⟨h.runs, h.start, h.nod, h.sub, h.done, h.mem, fun d hd => by
    rw [List.take_add_one, hc] at hd
    rcases List.mem_append.mp hd with hd | hd
    · exact h.upto d hd
    · rw [List.mem_singleton.mp hd]; exact hm⟩
theorem BfI.new (h : BfI sg ls hit ks ws here j) (hc : sg[j]? = some c) (hm : nxS ls here c ∉ ks) : BfI sg ls hit (ks ++ [nxS ls here c]) (ws ++ [nxS ls here c]) here (j + 1) := by
  have up : ∀ {x}, x ∈ ks → x ∈ ks ++ [nxS ls here c] := fun hx => List.mem_append_left _ hx
  have last : nxS ls here c ∈ ks ++ [nxS ls here c] := List.mem_append_right _ (List.mem_singleton.mpr rfl)
  refine ⟨fun k hk => ?_, up h.start, ?_, fun w hw => ?_, fun k hk => ?_, up h.mem, fun d hd => ?_⟩
  · rcases List.mem_append.mp hk with hk | hk
    · exact h.runs k hk
    · obtain ⟨t, h1, h2⟩ := h.runs here h.mem
      refine ⟨t ++ [c], fun d hd => ?_, ?_⟩
      · rcases List.mem_append.mp hd with hd | hd
        · exact h1 d hd
        · rw [List.mem_singleton.mp hd]; exact List.mem_of_getElem? hc
      · rw [stS_snoc, h2, List.mem_singleton.mp hk]
  · exact List.nodup_append.mpr ⟨h.nod, by simp, fun a ha b hb => by
      rw [List.mem_singleton.mp hb]
      exact fun e => hm (e ▸ ha)⟩
  · rcases List.mem_append.mp hw with hw | hw
    · exact up (h.sub w hw)
    · rw [List.mem_singleton.mp hw]; exact last
  · rcases List.mem_append.mp hk with hk | hk
    · rcases h.done k hk with z | z | ⟨z1, z2⟩
      · exact .inl (List.mem_append_left _ z)
      · exact .inr (.inl z)
      · exact .inr (.inr ⟨z1, fun d hd => up (z2 d hd)⟩)
    · rw [List.mem_singleton.mp hk]
      exact .inl (List.mem_append_right _ (List.mem_singleton.mpr rfl))
  · rw [List.take_add_one, hc] at hd
    rcases List.mem_append.mp hd with hd | hd
    · exact up (h.upto d hd)
    · rw [List.mem_singleton.mp hd]; exact last
theorem BfI.next (h : BfI sg ls hit ks ws here sg.length) (hh : hit here = false) : Bf sg ls hit ks ws := by
  have hu := h.upto
  rw [List.take_length] at hu
  exact ⟨h.runs, h.start, h.nod, h.sub, fun k hk => (h.done k hk).elim .inl fun z => .inr (z.elim (fun e => by rw [e]; exact ⟨hh, hu⟩) id)⟩
theorem Bf.none (h : Bf sg ls hit ks []) (t : List Nat) (ht : Over sg t) : hit (stS ls t) = false := by
  have key : ∀ n (t : List Nat), t.length = n → Over sg t → stS ls t ∈ ks := fun n => by
    induction n with
    | zero =>
      intro t ht _
      rw [List.length_eq_zero_iff.mp ht]
      exact h.start
    | succ n ih =>
      intro t ht ho
      rcases List.eq_nil_or_concat t with rfl | ⟨u, c, rfl⟩
      · cases ht
      · rw [List.concat_eq_append] at ht ho ⊢
        have hu := ih u (by rw [List.length_append] at ht; simpa using ht) fun d hd => ho d (List.mem_append_left _ hd)
        rw [stS_snoc]
        exact (((h.done _ hu).resolve_left (by simp)).2) c (ho c (List.mem_append_right _ (List.mem_singleton.mpr rfl)))
  exact ((h.done _ (key _ t rfl ht)).resolve_left (by simp)).1
/-- what a text does in some products -/
theorem any_st (ps : List Pd) (t : List Nat) : (stV ps t).any Option.isSome = ps.any fun p => (runI p 0 (tP t)).isSome := by
  unfold stV
  rw [List.any_map]
  rfl
theorem any_in {ps : List Pd} {t : List Nat} : (ps.any fun p => (runI p 0 (tP t)).isSome) = true ↔ InS ps t := by
  rw [List.any_eq_true]
  exact ⟨fun ⟨p, h1, h2⟩ => ⟨p, h1, runI_some.mp h2⟩, fun ⟨p, h1, h2⟩ => ⟨p, h1, runI_some.mpr h2⟩⟩
end M23
namespace Lw
open PySem PySem.Spec PyProof.Rows L3
open L2 hiding del del_same del_ne
open M23 (goO)
theorem ok_one {y : List Nat} (h : M23.Ok y) {c : Nat} (hc : c ≠ 42) : decide (c ∈ y) = M23.holds y [c] := by
  rcases h with ⟨d, hd, rfl⟩ | ⟨l, h1, h2, h3, rfl⟩
  · rw [show decide (c ∈ [d]) = decide (d = c) from decide_eq_decide.mpr ⟨fun z => (List.mem_singleton.mp z).symm, fun z => by rw [z]; exact List.mem_cons_self⟩]
    unfold M23.holds
    rw [M23.isS_one hd, if_neg (by decide)]
    refine decide_eq_decide.mpr ⟨fun z => by rw [z], fun z => by injection z⟩
  · have e : decide (c ∈ l ++ [42]) = decide (c ∈ l) := decide_eq_decide.mpr ⟨fun z => (List.mem_append.mp z).elim id fun z => absurd (List.mem_singleton.mp z) hc, fun z => List.mem_append_left _ z⟩
    rw [e]
    unfold M23.holds
    rw [M23.isS_star, if_pos rfl, M23.lt_star, M23.lt_one hc]
    simp
theorem ok_long {y : List Nat} (h : M23.Ok y) : decide ((y.length : Int) > 1) = M23.isS y := by
  rcases h with ⟨d, hd, rfl⟩ | ⟨l, h1, h2, h3, rfl⟩
  · rw [M23.isS_one hd]; rfl
  · rw [M23.isS_star]
    have := List.length_pos_iff.mpr h1
    exact decide_eq_true (by rw [List.length_append, List.length_singleton]; omega)
section
variable {P : Program} {w : World} {K : PySem.W.Frag} {mg : Str → Option Value} {base : Heap}
def spGo (K : PySem.W.Frag) : Sp := fun vs H Q _ => ∃ (v : V) (p : M23.Pd) (o : Option Nat) (c : Nat), vs = [v, .int (M23.enc o), tx [c]] ∧ Dp K H v (M23.dP p) ∧ (∀ i, o = some i → i ≤ p.length) ∧ p.length ≤ 1000 ∧ (∀ y ∈ p, M23.Ok y ∧ y.length ≤ 10) ∧ c ≠ 42 ∧ Q (.int (M23.enc (goO p o c))) H
theorem ok_law_go (T : All K mg) : FnOk P w K mg base CX0 1 T.f_law_go T.d_law_go ["_law_bundle_here", "_law_at", "_law_sign"] (spGo K) := by
  refine T.law_go.F.ok sc_law_go (fun vs H Q E h => ?_) (fun cdv A outer s H vs Q E hr h => ?_)
  · obtain ⟨v, p, o, c, rfl, _⟩ := h
    rfl
  · obtain ⟨v, p, o, c, rfl, hd, ho, hz, hyl, hc, q⟩ := h
    obtain ⟨a, rfl, hs⟩ := dp_pd hd
    refine ⟨_, pss_cons (ps_for PassesOwn.never rfl (pi_range2 rfl T.b_range (pa_cons (pe_callB (call_max2 rfl) (by rfl) T.b_max PyProof.Rows.boot_max (pa_cons (pv 1) (pa_cons pe_int pa_nil))) (pa_cons (pe_callB call_len_seq (by rfl) T.b_len PySem.boot_len (pa_cons (pv 0) pa_nil)) pa_nil))) (pg_name (i := 3) sc_law_go.nd rfl (by first | exact Or.inl rfl | exact Or.inr rfl))
        (pss_one (ps_if (PW.pt (pw_and (pt_cmpR op_ge (pv 1) pe_int (nomark _)) (pw_and1 (pt_cmpR op_in_sign (pv 2) (pe_ix ix_tup (pv 0) (pv 3) (fun _ _ => rfl)) (by rfl))))) (pss_one (ps_ret (pe_ifExp (pt_cmpR op_gt (pe_callB call_lenT (by rfl) T.b_len PySem.boot_len (pa_cons (pe_ix ix_tup (pv 0) (pv 3) (fun _ _ => rfl)) pa_nil)) pe_int (nomark _)) (pv 3) (pe_op op_add (pv 3) pe_int)))) pss_nil)))
      (pss_one (ps_ret (pe_un un_neg pe_int))), ?_⟩
    dsimp only [cxOf]
    have hlp : (p.map tx).length = p.length := List.length_map ..
    have hmax : (if (0 : Int) > M23.enc o then (0 : Int) else M23.enc o) = ((o.getD 0 : Nat) : Int) := by
      cases o with
      | none => rfl
      | some i =>
        show (if (0 : Int) > (i : Int) then (0 : Int) else (i : Int)) = (i : Int)
        rw [if_neg (by omega)]
    have hlo : o.getD 0 ≤ p.length := by
      cases o with
      | none => exact Nat.zero_le _
      | some i => exact ho i rfl
    refine ⟨_, rfl, _, _, rfl, ?_⟩
    rw [hmax]
    refine ⟨_, rfl, a, _, rfl, .inr hs, _, _, rfl, ⟨by omega, by omega, by omega, by omega⟩, ?_⟩
    refine for_it walk_range (fun k σ H' => ∃ g, σ = [some (.ref a), some (.int (M23.enc o)), some (tx [c]), g] ∧ H' = H ∧ ∀ i, o = some i → ∀ j y, i ≤ j → j < i + k → p[j]? = some y → M23.holds y [c] = false) ⟨none, rfl, rfl, fun i _ j y h1 h2 _ => by omega⟩ (fun _ _ _ _ _ => trivial) (fun k v σ Ha Hb hk pp yy => ?_) (fun σ Hc pp => ?_)
    · obtain ⟨g, rfl, rfl, hno⟩ := pp
      obtain ⟨rfl, rfl⟩ := yy
      cases o with
      | none =>
        refine ⟨_, rfl, _, _, rfl, rfl, _, rfl, ite_f (by decide) ?_⟩
        refine ite_f (by decide) ⟨_, rfl, rfl, fun i e => by cases e⟩
      | some i =>
        have hkp : i + k < p.length := by
          have h2 : ((some i).getD 0 : Nat) = i := rfl
          rw [h2] at hk
          omega
        have ek : (((some i).getD 0 : Nat) : Int) + (k : Int) = ((i + k : Nat) : Int) := by
          show (i : Int) + (k : Int) = _
          omega
        have hy := List.getElem?_eq_getElem hkp
        have hat : ∀ y, p[i + k]? = some y → atI (p.map tx) ((((some i).getD 0 : Nat) : Int) + (k : Int)) = some (tx y) := fun y e => by
          rw [ek]
          exact atI_nat (by rw [List.getElem?_map, e]; rfl)
        generalize p[i + k] = y at hy
        obtain ⟨hok, hylen⟩ := hyl y (List.mem_of_getElem? hy)
        refine ⟨_, rfl, _, _, rfl, rfl, _, rfl, ite_t (decide_eq_true (by show (0 : Int) ≤ (i : Int); omega)) ?_⟩
        refine ⟨_, rfl, _, rfl, _, rfl, a, _, _, tx y, rfl, rfl, hs, hat y hy, c, tS y, rfl, rfl, _, rfl, ?_⟩
        have ein : decide (c ∈ (tS y).cps.toList) = M23.holds y [c] := ok_one hok hc
        rw [ein]
        refine ite2 (fun e => ?_) (fun e => ?_)
        · have fin := M23.pb_found hy e (i + k - i) i rfl (by omega) (hno i rfl)
          refine ⟨_, rfl, _, rfl, a, _, _, tx y, rfl, rfl, hs, hat y hy, y, rfl, by have : sizeLine = 16777216 := sizeLine_eq; omega, _, _, rfl, rfl, _, rfl, ?_⟩
          have el : decide ((1 : Int) < (y.length : Int)) = M23.isS y := ok_long hok
          rw [el]
          unfold goO at q
          rw [Option.bind_some, fin] at q
          refine ite2 (fun e2 => ?_) (fun e2 => ?_)
          · rw [if_pos e2] at q
            refine ⟨_, rfl, ?_⟩
            show Q (.int ((((some i).getD 0 : Nat) : Int) + (k : Int))) _
            rw [ek]
            exact q
          · rw [if_neg e2] at q
            refine ⟨_, rfl, _, _, rfl, rfl, ?_⟩
            show Q (.int ((((some i).getD 0 : Nat) : Int) + (k : Int) + 1)) _
            rw [ek]
            exact q
        · dsimp only [tNext]
          refine ⟨_, rfl, rfl, fun i' ei j y' h1 h2 h3 => ?_⟩
          cases ei
          by_cases hj : j = i + k
          · subst hj
            rw [hy] at h3
            cases h3
            exact Bool.eq_false_iff.mpr e
          · exact hno i rfl j y' h1 (by omega) h3
    · obtain ⟨g, rfl, rfl, hno⟩ := pp
      cases o with
      | none => exact ⟨_, rfl, q⟩
      | some i =>
        have fin := M23.pb_none (x := [c]) (q := p) (p.length - i) i rfl fun j y h1 h2 => by
          have := (List.getElem?_eq_some_iff.mp h2).1
          refine hno i rfl j y h1 ?_ h2
          show j < i + (((p.map tx).length : Int) - ((i : Nat) : Int)).toNat
          rw [hlp]
          omega
        unfold goO at q
        rw [Option.bind_some, fin] at q
        exact ⟨_, rfl, q⟩
def spHits (K : PySem.W.Frag) : Sp := fun vs H Q _ => ∃ (a : Addr) (r : Str) (x y : Bool), vs = [.str r, .ref a] ∧ SqL K H a [.bl x, .bl y] ∧ ((r = "beyond" ∧ Q (.bl (x && !y)) H) ∨ (r = "unlike" ∧ Q (.bl (x != y)) H))
theorem ok_law_hits (T : All K mg) : FnOk P w K mg base CX0 1 T.f_law_hits T.d_law_hits ["_law_rule", "_law_flags"] (spHits K) := by
  refine T.law_hits.F.ok sc_law_hits (fun vs H Q E h => ?_) (fun cdv A outer s H vs Q E hr h => ?_)
  · obtain ⟨a, r, x, y, rfl, _⟩ := h
    rfl
  · obtain ⟨a, r, x, y, rfl, hs, q⟩ := h
    refine ⟨_, pss_cons (ps_if (pt_cmpR op_eq (pv 0) pe_str (nomark _)) (pss_one (ps_ret (pe_and (pe_ix ix_list (pv 1) pe_int (fun _ _ => rfl))
        (pe_one (pe_not (pe_ix ix_list (pv 1) pe_int (fun _ _ => rfl))))))) pss_nil)
      (pss_cons (ps_if (pt_cmpR op_eq (pv 0) pe_str (nomark _)) (pss_one (ps_ret (pe_cmpR op_ne (pe_ix ix_list (pv 1) pe_int (fun _ _ => rfl)) (pe_ix ix_list (pv 1) pe_int (fun _ _ => rfl)) (by rfl)))) pss_nil)
      (pss_one (ps_ret (pe_cmpR op_ne (pe_ix ix_list (pv 1) pe_int (fun _ _ => rfl)) (pe_ifExp (pt_cmpR op_eq (pv 0) pe_str (nomark _)) (pe_and (pe_ix ix_list (pv 1) pe_int (fun _ _ => rfl))
        (pe_one (pe_ix ix_list (pv 1) pe_int (fun _ _ => rfl)))) (pe_or (pe_ix ix_list (pv 1) pe_int (fun _ _ => rfl))
        (pe_one (pe_ix ix_list (pv 1) pe_int (fun _ _ => rfl))))) (by rfl))))), ?_⟩
    dsimp only [cxOf]
    have h0 : atI [V.bl x, V.bl y] (0 : Int) = some (V.bl x) := rfl
    have h1 : atI [V.bl x, V.bl y] (1 : Int) = some (V.bl y) := rfl
    rcases q with ⟨rfl, q⟩ | ⟨rfl, q⟩
    · refine ⟨_, rfl, rfl, _, rfl, ite_t (by decide) ?_⟩
      refine ⟨_, rfl, a, _, _, _, rfl, rfl, hs, h0, x, rfl, ?_⟩
      cases x with
      | false => exact ite_f (by decide) q
      | true => exact ite_t rfl ⟨_, rfl, a, _, _, _, rfl, rfl, hs, h1, y, rfl, q⟩
    · refine ⟨_, rfl, rfl, _, rfl, ite_f (by decide) ?_⟩
      refine ⟨_, rfl, rfl, _, rfl, ite_t (by decide) ?_⟩
      refine ⟨_, rfl, a, _, _, _, rfl, rfl, hs, h0, _, rfl, a, _, _, _, rfl, rfl, hs, h1, rfl, ?_⟩
      have e : (!decide (V.bl x = V.bl y)) = (x != y) := by cases x <;> cases y <;> decide
      rw [e]
      exact q
end
end Lw
namespace Lw
open PySem PySem.Spec PyProof.Rows L3
open L2 hiding del del_same del_ne
open M23 (goO nxV stV stV_nil stV_snoc)
/-- spots in some products -/
def vV (v : List (Option Nat)) : List V := v.map fun o => .int (M23.enc o)
def dV (v : List (Option Nat)) : PyData := .tuple (v.map fun o => .int (M23.enc o))
theorem enc_ge (o : Option Nat) : decide ((0 : Int) ≤ M23.enc o) = o.isSome := by
  cases o with
  | none => rfl
  | some k => exact decide_eq_true (Int.natCast_nonneg k)
/-- within the products -/
def Spot (ps : List M23.Pd) (v : List (Option Nat)) : Prop := v.length = ps.length ∧ ∀ (j : Nat) (p : M23.Pd) (i : Nat), ps[j]? = some p → v[j]? = some (some i) → i ≤ p.length
theorem spot_st (ps : List M23.Pd) (t : List Nat) : Spot ps (stV ps t) := by
  refine ⟨by unfold stV; rw [List.length_map], fun j p i h1 h2 => ?_⟩
  unfold stV at h2
  rw [List.getElem?_map, h1] at h2
  exact M23.runI_le (Nat.zero_le _) (Option.some.inj h2)
/-- products that the law's own texts ask -/
def Asked (ps : List M23.Pd) : Prop := ps.length ≤ 20 ∧ ∀ p ∈ ps, p.length ≤ 100 ∧ ∀ y ∈ p, M23.Ok y ∧ y.length ≤ 10
section
variable {P : Program} {w : World} {K : PySem.W.Frag} {mg : Str → Option Value} {base : Heap}
theorem dV_at {H : Hp} {x : V} {v : List (Option Nat)} (h : Dp K H x (dV v)) : ∃ a, x = .ref a ∧ SqT K H a (vV v) := by
  obtain ⟨a, xs, rfl, h1, h2⟩ := dp_tuple h
  refine ⟨a, rfl, ?_⟩
  have key : ∀ {v : List (Option Nat)} {xs : List V}, DpAll K H xs (v.map fun o => .int (M23.enc o)) → xs = vV v := by
    intro v
    induction v with
    | nil => intro xs h; cases h; rfl
    | cons o v ih =>
      intro xs h
      cases h with
      | cons g t => cases g; rw [ih t]; rfl
  rw [← key h2]
  exact h1
theorem vV_dp (H : Hp) : ∀ v : List (Option Nat), DpAll K H (vV v) (v.map fun o => .int (M23.enc o))
  | [] => .nil
  | o :: v => .cons (.int _) (vV_dp H v)
def spNext (K : PySem.W.Frag) : Sp := fun vs H Q _ => ∃ (x y : V) (ps : List M23.Pd) (v : List (Option Nat)) (c : Nat), vs = [x, y, tx [c]] ∧ Bun K H x ps ∧ Asked ps ∧ Dp K H y (dV v) ∧ Spot ps v ∧ c ≠ 42 ∧ ∀ H' b, Same H H' → H b = none → H' b = some (.tup (vV (nxV ps v c))) → Q (.ref b) H'
theorem ok_law_next (T : All K mg) : FnOk P w K mg base CX0 2 T.f_law_next T.d_law_next ["_law_some_here", "_law_spots", "_law_sign"] (spNext K) := by
  refine T.law_next.F.ok sc_law_next (fun vs H Q E h => ?_) (fun cdv A outer s H vs Q E hr h => ?_)
  · obtain ⟨x, y, ps, v, c, rfl, _⟩ := h
    rfl
  · obtain ⟨x, y, ps, v, c, rfl, hB, hA, hv, hs, hc, q⟩ := h
    refine ⟨_, pss_one (ps_ret (pe_callTy call_tuple_of (by rfl) T.b_tuple (show bootBuiltins "tuple" = some (.type "tuple") by decide +kernel) (pa_cons (pe_lc (own := [("_law_bundle_here", 3), ("_law_at", 4)]) (tt := tYes) rfl sc_law_next.nd (pi_zipS rfl T.b_zip (pa_cons (pv 0) (pa_cons (pv 1) pa_nil)))
          (blkOk_by (own := [("_law_bundle_here", 3), ("_law_at", 4)]) (N := ["_law_some_here", "_law_spots", "_law_sign", "_law_bundle_here", "_law_at"]) (sc := defScope s_law_next) (by decide +kernel))
          (fun _ _ _ _ _ => (pg_tupK (K := K) (n := 2) rfl rfl (pgs_cons (pg_name (i := 3) sc_law_next.nd rfl (Or.inl rfl)) (pgs_cons (pg_name (i := 4) sc_law_next.nd rfl (Or.inl rfl)) pgs_nil)) rfl)) (fun _ _ _ _ _ => pts_nil)
          (fun _ _ _ _ _ => (pe_call (ok_law_go T) (hr.mono (by decide)) (by rfl) T.law_go.g T.law_go.F.kp T.law_go.b .nil pass0 (pa_cons (pv 3) (pa_cons (pv 4) (pa_cons (pv 2) pa_nil)))))) pa_nil))), ?_⟩
    obtain ⟨bs, hS, hps, hP⟩ := hB
    obtain ⟨a, rfl, hv'⟩ := dV_at hv
    obtain ⟨ys, ey, hy⟩ := sq_src hS
    have hbl : (rfs bs).length = bs.length := List.length_map _
    have hbp : bs.length = ps.length := by rw [← hps, List.length_map]
    have hvl : (vV v).length = v.length := List.length_map _
    have hsl := hs.1
    have hal := hA.1
    have hnl : (nxV ps v c).length = ps.length := by unfold nxV; rw [List.length_zipWith]; omega
    refine ⟨_, rfl, _, rfl, ys, .T a, rfs bs, vV v, by rw [ey]; rfl, hy _ (Same.refl _), hv', fun D nD => ?_⟩
    refine lc_gen (walk_zipS (by rw [hbl, hvl]; omega)) (Same H) (fun i acc => acc = (vV (nxV ps v c)).take i) (sz (by rw [hbl]; omega)) (fun i acc e => by rw [e, List.length_take]; omega) rfl (same_upd nD) (fun _ _ h => same_up h nD) (fun _ h => ⟨hy _ h, sqT_same hv' h⟩) (fun i x H2 H3 acc C N hi r hD ha yy cc n => ?_) (fun H2 xs r hD ha => ?_)
    · obtain ⟨Tp, x1, x2, rfl, nT, rfl, e1, e2⟩ := yy
      have e1 : (rfs bs)[i]? = some x1 := e1
      have e2 : (vV v)[i]? = some x2 := e2
      rw [show (rfs bs)[i]? = (bs[i]?).map fun b => V.ref b.1 from List.getElem?_map] at e1
      rw [show (vV v)[i]? = (v[i]?).map fun o => V.int (M23.enc o) from List.getElem?_map] at e2
      obtain ⟨b, hb, rfl⟩ := Option.map_eq_some_iff.mp e1
      obtain ⟨o, hob, rfl⟩ := Option.map_eq_some_iff.mp e2
      have hbm := List.mem_of_getElem? hb
      have hpi : ps[i]? = some b.2 := by rw [← hps, List.getElem?_map, hb]; rfl
      have hbz := hA.2 b.2 (List.mem_of_getElem? hpi)
      have sT := same_upd (o := .tup [.ref b.1, .int (M23.enc o)]) nT
      refine ⟨Tp, _, rfl, .inl (.inl upd_same), rfl, _, _, rfl, _, _, rfl, rfl, ⟨rfl, yes_te ?_⟩⟩
      refine ⟨_, rfl, _, rfl, _, rfl, .ref b.1, b.2, o, c, rfl, pd_dp (sqT_same (hP b hbm) (r.trans sT)), fun k e => hs.2 i b.2 k hpi (by rw [hob, e]), by have := hbz.1; omega, hbz.2, hc, cc _ _ (r.trans sT) (sT _ _ hD) ?_⟩
      have hni : (nxV ps v c)[i]? = some (goO b.2 o c) := by
        unfold nxV
        rw [List.getElem?_zipWith, hpi, hob]
      rw [ha, List.take_add_one, show (vV (nxV ps v c))[i]? = ((nxV ps v c)[i]?).map fun o => V.int (M23.enc o) from List.getElem?_map, hni]
      rfl
    · rw [hbl, hbp, ← hnl, show (nxV ps v c).length = (vV (nxV ps v c)).length from (List.length_map _).symm, List.take_length] at ha
      subst ha
      refine ⟨D, _, rfl, .inl ⟨.inl (.inl hD), fun b nb => q _ b (r.trans (same_upd nb)) (r.free nb) upd_same⟩⟩
def spRun (K : PySem.W.Frag) : Sp := fun vs H Q _ => ∃ (x : V) (ps : List M23.Pd) (t : List Nat), vs = [x, tx t] ∧ Bun K H x ps ∧ Asked ps ∧ t.length ≤ 1000 ∧ (∀ c ∈ t, c ≠ 42) ∧ ∀ H' b, Same H H' → Dp K H' (.ref b) (dV (stV ps t)) → Q (.ref b) H'
theorem ok_law_run (T : All K mg) : FnOk P w K mg base CX0 3 T.f_law_run T.d_law_run ["_law_some_here", "_law_text"] (spRun K) := by
  refine T.law_run.F.ok sc_law_run (fun vs H Q E h => ?_) (fun cdv A outer s H vs Q E hr h => ?_)
  · obtain ⟨x, ps, t, rfl, _⟩ := h
    rfl
  · obtain ⟨x, ps, t, rfl, hB, hA, hz, ht, q⟩ := h
    refine ⟨_, pss_cons (ps_set (i := 2) sc_law_run.nd rfl (by first | exact Or.inl rfl | exact Or.inr rfl) (pe_callTy call_tuple_of (by rfl) T.b_tuple (show bootBuiltins "tuple" = some (.type "tuple") by decide +kernel) (pa_cons (pe_lc (own := [("_law_bundle_here", 3)]) (g := gName 3) (tt := tYes) rfl sc_law_run.nd (pi_sq (pv 0))
          (blkOk_by (own := [("_law_bundle_here", 3)]) (N := ["_law_some_here", "_law_text", "_law_spots", "_law_bundle_here", "_law_sign"]) (sc := defScope s_law_run) (by decide +kernel))
          (fun _ _ _ _ _ => pg_name (i := 3) sc_law_run.nd rfl (by first | exact Or.inl rfl | exact Or.inr rfl)) (fun _ _ _ _ _ => pts_nil)
          (fun _ _ _ _ _ => pe_int)) pa_nil)))
      (pss_cons (ps_for PassesOwn.never rfl (pi_str (pv 1)) (pg_name (i := 4) sc_law_run.nd rfl (by first | exact Or.inl rfl | exact Or.inr rfl))
        (pss_one (ps_set (i := 2) sc_law_run.nd rfl (by first | exact Or.inl rfl | exact Or.inr rfl) (pe_call (ok_law_next T) (hr.mono (by decide)) (by rfl) T.law_next.g T.law_next.F.kp T.law_next.b .nil pass0 (pa_cons (pv 0) (pa_cons (pv 2) (pa_cons (pv 4) pa_nil)))))))
      (pss_one (ps_ret (pv 2)))), ?_⟩
    obtain ⟨bs, hS, hps, hP⟩ := hB
    have hbl : (rfs bs).length = bs.length := List.length_map _
    have hbp : bs.length = ps.length := by rw [← hps, List.length_map]
    have hal := hA.1
    refine ⟨_, rfl, rfs bs, H, hS, Same.refl H, fun J G wk hG D nD => ?_⟩
    refine lc_gen wk (Same H) (fun i acc => acc = List.replicate i (.int 0)) (sz (by rw [hbl]; omega)) (fun i acc e => by rw [e, List.length_replicate]; exact Nat.le_refl _) rfl (same_upd nD) (fun _ _ h => same_up h nD) (fun _ h => hG _ h) (fun i x1 H2 H3 acc C N hi r hD ha yy cc n => ?_) (fun H2 xs r hD ha => ?_)
    · obtain ⟨rfl, yy⟩ := yy
      exact ⟨rfl, yes_te (cc _ _ r hD (by rw [ha, List.replicate_succ']))⟩
    · subst ha
      refine ⟨D, _, rfl, .inl ⟨.inl (.inl hD), fun b nb => ?_⟩⟩
      have sb := same_upd (o := .tup (List.replicate (rfs bs).length (V.int 0))) nb
      have h0 : vV (stV ps []) = List.replicate (rfs bs).length (V.int 0) := by
        rw [stV_nil, hbl, hbp]
        unfold vV
        rw [List.map_map]
        exact List.map_const' ..
      refine ⟨_, rfl, tS t, rfl, ?_⟩
      refine for_it walk_tx (fun i σ H' => ∃ (b : Addr) (g gg : Option V), σ = [some x, some (tx t), some (.ref b), g, gg] ∧ Same H H' ∧ Dp K H' (.ref b) (dV (stV ps (t.take i)))) ⟨b, none, none, rfl, r.trans sb, .tup (.inl (.inl (by rw [upd_same]; exact congrArg (fun z => some (HO.tup z)) h0.symm))) (vV_dp _ _)⟩ (fun _ _ _ _ _ => trivial) (fun i x1 σ H3 H4 hi pp yy => ?_) (fun σ H3 pp => ?_)
      · obtain ⟨b1, g, gg, rfl, s3, hd⟩ := pp
        obtain ⟨rfl, c, hc, rfl⟩ := yy
        refine ⟨_, rfl, _, rfl, _, rfl, x, .ref b1, ps, stV ps (t.take i), c, rfl, ⟨bs, hS.same s3, hps, hP.same s3⟩, hA, hd, spot_st _ _, ht c (List.mem_of_getElem? hc), fun H5 b2 s5 n2 h2 => ?_⟩
        refine ⟨b2, g, _, rfl, s3.trans s5, .tup (.inl (.inl ?_)) (vV_dp _ _)⟩
        rw [h2, List.take_add_one, hc]
        exact congrArg (fun z => some (HO.tup (vV z))) (stV_snoc c _ ps).symm
      · obtain ⟨b1, g, gg, rfl, s3, hd⟩ := pp
        rw [List.take_length] at hd
        exact ⟨_, rfl, q _ b1 s3 hd⟩
def spHas (K : PySem.W.Frag) : Sp := fun vs H Q _ => ∃ (x : V) (ps : List M23.Pd) (t : List Nat), vs = [x, tx t] ∧ Bun K H x ps ∧ Asked ps ∧ t.length ≤ 1000 ∧ (∀ c ∈ t, c ≠ 42) ∧ ∀ H', Same H H' → Q (.bl (ps.any fun p => (M23.runI p 0 (M23.tP t)).isSome)) H'
theorem ok_law_has (T : All K mg) : FnOk P w K mg base CX0 4 T.f_law_has T.d_law_has ["_law_some_here", "_law_text"] (spHas K) := by
  refine T.law_has.F.ok sc_law_has (fun vs H Q E h => ?_) (fun cdv A outer s H vs Q E hr h => ?_)
  · obtain ⟨x, ps, t, rfl, _⟩ := h
    rfl
  · obtain ⟨x, ps, t, rfl, hB, hA, hz, ht, q⟩ := h
    refine ⟨_, pss_one (ps_ret (pe_callB (cr_any rfl) (by rfl) T.b_any PyProof.Rows.boot_any (pa_cons (pe_lc (own := [("_law_at", 2)]) (g := gName 2) (tt := tYes) rfl sc_law_has.nd (pi_tup (pe_call (ok_law_run T) (hr.mono (by decide)) (by rfl) T.law_run.g T.law_run.F.kp T.law_run.b .nil pass0 (pa_cons (pv 0) (pa_cons (pv 1) pa_nil))))
          (blkOk_by (own := [("_law_at", 2)]) (N := ["_law_some_here", "_law_text", "_law_at"]) (sc := defScope s_law_has) (by decide +kernel))
          (fun _ _ _ _ _ => pg_name (i := 2) sc_law_has.nd rfl (by first | exact Or.inl rfl | exact Or.inr rfl)) (fun _ _ _ _ _ => pts_nil)
          (fun _ _ _ _ _ => (pe_cmpR op_ge (pv 2) pe_int (by rfl)))) pa_nil))), ?_⟩
    refine ⟨_, rfl, _, rfl, x, ps, t, rfl, hB, hA, hz, ht, fun H1 b s1 hd => ?_⟩
    obtain ⟨b', e, hT⟩ := dV_at hd
    cases e
    have hal := hA.1
    have hvl : (vV (stV ps t)).length = ps.length := by unfold vV stV; rw [List.length_map, List.length_map]
    refine ⟨b, rfl, ⟨_, hT⟩, fun D nD => ?_⟩
    refine lc_gen (walk_tup (xs := vV (stV ps t))) (Same H1) (fun i acc => acc = (ps.take i).map fun p => V.bl (M23.runI p 0 (M23.tP t)).isSome) (sz (by rw [hvl]; omega)) (fun i acc e => by rw [e, List.length_map, List.length_take]; omega) rfl (same_upd nD) (fun _ _ h => same_up h nD) (fun _ h => sqT_same hT h) (fun i x1 H2 H3 acc C N hi r hD ha yy cc n => ?_) (fun H2 xs r hD ha => ?_)
    · obtain ⟨rfl, yy⟩ := yy
      rw [show (vV (stV ps t))[i]? = ((stV ps t)[i]?).map fun o => V.int (M23.enc o) from List.getElem?_map] at yy
      obtain ⟨o, ho, rfl⟩ := Option.map_eq_some_iff.mp yy
      rw [show (stV ps t)[i]? = (ps[i]?).map fun p => M23.runI p 0 (M23.tP t) from List.getElem?_map] at ho
      obtain ⟨p, hp, rfl⟩ := Option.map_eq_some_iff.mp ho
      refine ⟨rfl, yes_te ⟨_, rfl, _, _, rfl, rfl, cc _ _ r hD ?_⟩⟩
      rw [ha, List.take_add_one, hp, List.map_append]
      show _ ++ [V.bl (decide ((0 : Int) ≤ M23.enc (M23.runI p 0 (M23.tP t))))] = _
      rw [enc_ge]
      rfl
    · rw [hvl, List.take_length] at ha
      subst ha
      refine ⟨D, ps.map fun p => (M23.runI p 0 (M23.tP t)).isSome, rfl, .inl (.inl (by rw [hD, List.map_map]; rfl)), ?_⟩
      rw [List.any_map]
      exact q _ (s1.trans r)
end
end Lw
namespace Lw
open PySem PySem.Spec PyProof.Rows L3
open L2 hiding del del_same del_ne
open M23 (goO nxV stV stV_nil stV_snoc stS nxS)
def dels (l : List Addr) (H : Hp) : Hp := fun b => if b ∈ l then none else H b
theorem dels_in {l : List Addr} {H : Hp} {a : Addr} (h : a ∈ l) : dels l H a = none := if_pos h
theorem dels_out {l : List Addr} {H : Hp} {a : Addr} (h : a ∉ l) : dels l H a = H a := if_neg h
theorem dels_same (l : List Addr) (H : Hp) : Same (dels l H) H := fun b o e => by
  by_cases h : b ∈ l
  · rw [dels_in h] at e; cases e
  · rw [dels_out h] at e; exact e
theorem dels_upd {l : List Addr} {H : Hp} {a : Addr} {o : HO} (h : a ∈ l) : dels l (upd H a o) = dels l H := by
  funext b
  by_cases hb : b ∈ l
  · rw [dels_in hb, dels_in hb]
  · rw [dels_out hb, dels_out hb, upd_ne (fun z => hb (by rw [z]; exact h))]
theorem dels_mono {l : List Addr} {H H' : Hp} (s : Same H H') : Same (dels l H) (dels l H') := fun b o e => by
  by_cases h : b ∈ l
  · rw [dels_in h] at e; cases e
  · rw [dels_out h] at e ⊢; exact s b o e
/-- no tuple lies at a -/
def NoTup (H : Hp) (a : Addr) : Prop := ∀ o, H a = some o → (∀ xs, o ≠ .tup xs) ∧ ∀ u v, o ≠ .frz u v
def dSt (s : M23.St) : PyData := .tuple (s.map dV)
theorem keyNs_ints : ∀ v : List (Option Nat), keyNs (v.map fun o => PyData.int (M23.enc o)) = v.map fun o => NestedKey.num (M23.enc o)
  | [] => rfl
  | o :: v => by rw [List.map_cons, keyNs, keyNs_ints v]; rfl
theorem dV_key (v : List (Option Nat)) : keyN (dV v) = .tup (v.map fun o => NestedKey.num (M23.enc o)) := by
  unfold dV
  rw [keyN, keyNs_ints]
theorem dSt_key (s : M23.St) : keyN (dSt s) = .tup (s.map fun v => NestedKey.tup (v.map fun o => NestedKey.num (M23.enc o))) := by
  unfold dSt
  rw [keyN]
  congr 1
  induction s with
  | nil => rfl
  | cons v s ih => rw [List.map_cons, keyNs, dV_key, ih]; rfl
theorem dV_inj {u v : List (Option Nat)} (h : (u.map fun o => NestedKey.num (M23.enc o)) = v.map fun o => NestedKey.num (M23.enc o)) : u = v :=
  (List.map_inj_right fun a b e => M23.enc_inj (by injection e)).mp h
theorem dSt_inj {s t : M23.St} (h : keyN (dSt s) = keyN (dSt t)) : s = t := by
  rw [dSt_key, dSt_key] at h
  injection h with h
  exact (List.map_inj_right fun a b e => dV_inj (by injection e)).mp h
theorem keyables_ints : ∀ v : List (Option Nat), keyables (v.map fun o => PyData.int (M23.enc o)) = true
  | [] => rfl
  | o :: v => by rw [List.map_cons, keyables, keyables_ints v]; rfl
theorem dSt_keyable (s : M23.St) : keyable (dSt s) = true := by
  unfold dSt
  rw [keyable]
  induction s with
  | nil => rfl
  | cons v s ih =>
    rw [List.map_cons, keyables, ih]
    unfold dV
    rw [keyable, keyables_ints]
    rfl
theorem depth_ints : ∀ v : List (Option Nat), NestedKey.depthAll (v.map fun o => NestedKey.num (M23.enc o)) = 0
  | [] => rfl
  | o :: v => by rw [List.map_cons, NestedKey.depthAll, depth_ints v]; rfl
theorem depth_tups : ∀ s : M23.St, NestedKey.depthAll (s.map fun v => NestedKey.tup (v.map fun o => NestedKey.num (M23.enc o))) ≤ 1
  | [] => by rw [List.map_nil, NestedKey.depthAll]; decide
  | v :: s => by
    have ih := depth_tups s
    rw [List.map_cons, NestedKey.depthAll, NestedKey.depth, depth_ints]
    omega
theorem dSt_depth (s : M23.St) : (keyN (dSt s)).depth ≤ 8 := by
  have := depth_tups s
  rw [dSt_key, NestedKey.depth]
  omega
theorem val_st {es : List EntN} {ks : List M23.St} (h : es.map (·.1) = ks.map dSt) (x : M23.St) : (valN es (keyN (dSt x))).isSome = decide (x ∈ ks) := by
  induction es generalizing ks with
  | nil =>
    cases ks with
    | nil => simp [valN]
    | cons y ks => cases h
  | cons e es ih =>
    cases ks with
    | nil => cases h
    | cons y ks =>
      obtain ⟨h1, h2⟩ := List.cons.inj h
      have ih := ih h2
      have h1 : e.1 = dSt y := h1
      by_cases z : y = x
      · subst z
        unfold valN
        rw [List.find?_cons, h1]
        simp
      · have hne : ¬ keyN e.1 = keyN (dSt x) := fun w => z (dSt_inj (by rw [← h1]; exact w))
        have e1 : valN (e :: es) (keyN (dSt x)) = valN es (keyN (dSt x)) := by
          unfold valN
          rw [List.find?_cons]
          simp [hne]
        rw [e1, ih]
        refine decide_eq_decide.mpr ?_
        rw [List.mem_cons]
        exact ⟨.inr, fun w => w.resolve_left fun w => z w.symm⟩
theorem val_st_no {es : List EntN} {ks : List M23.St} (h : es.map (·.1) = ks.map dSt) {x : M23.St} (hx : x ∉ ks) : valN es (keyN (dSt x)) = none := by
  have := val_st h x
  rw [decide_eq_false hx] at this
  cases e : valN es (keyN (dSt x)) with
  | none => rfl
  | some v => rw [e] at this; cases this
theorem val_in {es : List EntN} {k : NestedKey} {v : V} (h : valN es k = some v) : ∃ x ∈ es, x.2.2 = v := by
  unfold valN at h
  obtain ⟨x, hx, rfl⟩ := Option.map_eq_some_iff.mp h
  exact ⟨x, List.mem_of_find?_eq_some hx, rfl⟩
section
variable {P : Program} {w : World} {K : PySem.W.Frag} {mg : Str → Option Value} {base : Heap}
def hitS (hb : Bool → Bool → Bool) (s : M23.St) : Bool := hb ((s.getD 0 []).any Option.isSome) ((s.getD 1 []).any Option.isSome)
/-- a list of products -/
def BunL (K : PySem.W.Frag) (H : Hp) (a : Addr) (ps : List M23.Pd) : Prop := ∃ bs : List AP, SqL K H a (rfs bs) ∧ bs.map Prod.snd = ps ∧ Prods K H bs
theorem BunL.same {H H' : Hp} {a : Addr} {ps : List M23.Pd} (h : BunL K H a ps) (s : Same H H') : BunL K H' a ps := by
  obtain ⟨bs, h1, h2, h3⟩ := h
  exact ⟨bs, sq_same h1 s, h2, h3.same s⟩
theorem BunL.bun {H : Hp} {a : Addr} {ps : List M23.Pd} (h : BunL K H a ps) : Bun K H (.ref a) ps := by
  obtain ⟨bs, h1, h2, h3⟩ := h
  exact ⟨bs, ⟨a, rfl, .inl h1⟩, h2, h3⟩
/-- tuples of places, as they lie -/
def VA (H : Hp) (as : List Addr) (s : M23.St) : Prop := Paired (fun a v => H a = some (.tup (vV v))) as s
theorem VA.same {H H' : Hp} {as : List Addr} {s : M23.St} (h : VA H as s) (k : Same H H') : VA H' as s := Paired.mapP h fun _ _ z => k _ _ z
theorem VA.up {H : Hp} {D : Addr} {ys : List V} {o : HO} {as : List Addr} {s : M23.St} (h : VA H as s) (hD : H D = some (.lst ys)) : VA (upd H D o) as s := Paired.mapP h fun _ _ z => up_tup hD z
theorem VA.dels {H : Hp} {l as : List Addr} {s : M23.St} (h : VA H as s) (hn : ∀ a ∈ l, NoTup H a) : VA (dels l H) as s := Paired.mapP h fun a v z => by
  rw [dels_out (fun m => (hn a m _ z).1 _ rfl)]
  exact z
theorem VA.dp {H : Hp} {as : List Addr} {s : M23.St} (h : VA H as s) : DpAll K H (as.map V.ref) (s.map dV) := by
  unfold VA at h
  induction h with
  | nil => exact .nil
  | cons h _ ih => exact .cons (.tup (.inl (.inl h)) (vV_dp _ _)) ih
theorem wt_st {ls : List (List M23.Pd)} (hA : ∀ ps ∈ ls, Asked ps) (h2 : ls.length ≤ 2) (t : List Nat) : Wt (dSt (stS ls t)) (621 * 2) 2 := by
  unfold dSt stS
  rw [List.map_map]
  refine Wt.tuple (w := 620) (k := 1) (fun d hd => ?_) (by rw [List.length_map]; exact h2)
  obtain ⟨ps, hps, rfl⟩ := List.mem_map.mp hd
  obtain ⟨h3, h4⟩ := hA ps hps
  show Wt (dV (stV ps t)) _ _
  unfold dV stV
  rw [List.map_map]
  refine Wt.tuple (w := 30) (k := 0) (n := 20) (fun d hd => ?_) (by rw [List.length_map]; exact h3)
  obtain ⟨p, hp, rfl⟩ := List.mem_map.mp hd
  refine Wt.int ?_
  have h5 := (h4 p hp).1
  show (M23.enc (M23.runI p 0 (M23.tP t))).natAbs < 1000000000
  cases e : M23.runI p 0 (M23.tP t) with
  | none => decide
  | some k =>
    have := M23.runI_le (Nat.zero_le _) e
    show ((k : Nat) : Int).natAbs < 1000000000
    omega
theorem shp_ws {ls : List (List M23.Pd)} (hA : ∀ ps ∈ ls, Asked ps) (h2 : ls.length ≤ 2) {ws : List M23.St} (h : ∀ w ∈ ws, ∃ t, stS ls t = w) : SeqAt.shaped (.list (ws.map dSt)) = true := by
  refine (Wt.list (w := 621 * 2) (k := 2) (n := ws.length) (fun d hd => ?_) (by rw [List.length_map]; exact Nat.le_refl _)).shaped (by decide)
  obtain ⟨w, hw, rfl⟩ := List.mem_map.mp hd
  obtain ⟨t, rfl⟩ := h w hw
  exact wt_st hA h2 t
theorem dpAll_cons {H : Hp} {xs : List V} {d : PyData} {ds : List PyData} (h : DpAll K H xs (d :: ds)) : ∃ x ys, xs = x :: ys ∧ Dp K H x d ∧ DpAll K H ys ds := by
  cases h with
  | cons h1 h2 => exact ⟨_, _, rfl, h1, h2⟩
theorem eq_nilS (ws : List M23.St) : PyData.eqv (.list (ws.map dSt)) (.list []) = ws.isEmpty := by cases ws <;> rfl
def spApart (K : PySem.W.Frag) : Sp := fun vs H Q _ => ∃ (sg : List Nat) (l : Addr) (ll : List (Addr × List M23.Pd)) (D : List M23.Pd) (r : Str) (hb : Bool → Bool → Bool), vs = [tx sg, .ref l, .str r] ∧ Lets sg ∧ SqL K H l (ll.map fun z => V.ref z.1) ∧ (∀ z ∈ ll, BunL K H z.1 z.2 ∧ Asked z.2) ∧ ll.length = 2 ∧
  (∀ zs ∈ ll.map Prod.snd, ∀ p ∈ zs, p ∈ D) ∧ M23.cnt D ≤ 2000000 ∧ ((r = "beyond" ∧ hb = fun x y => x && !y) ∨ (r = "unlike" ∧ hb = bne)) ∧
  ∀ H' z, Same H H' → (((∃ t, M23.Over sg t ∧ hitS hb (stS (ll.map Prod.snd) t) = true) ∧ ∃ t', z = tx t') ∨ ((∀ t, M23.Over sg t → hitS hb (stS (ll.map Prod.snd) t) = false) ∧ z = .non)) → Q z H'
theorem ok_law_apart (T : All K mg) : FnOk P w K mg base CX0 4 T.f_law_apart T.d_law_apart ["_law_signs_here", "_law_lists", "_law_rule"] (spApart K) := by
  refine T.law_apart.F.ok sc_law_apart (fun vs H Q E h => ?_) (fun cdv A outer s H vs Q E hr h => ?_)
  · obtain ⟨sg, l, ll, D, r, hb, rfl, _⟩ := h
    rfl
  · obtain ⟨sg, l, ll, D, r, hb, rfl, hl, hS, hll, hlen, hD, hcnt, hrule, q⟩ := h
    refine ⟨_, pss_cons (ps_set (i := 3) sc_law_apart.nd rfl (by first | exact Or.inl rfl | exact Or.inr rfl) (pe_callTy call_tuple_of (by rfl) T.b_tuple (show bootBuiltins "tuple" = some (.type "tuple") by decide +kernel) (pa_cons (pe_lc (own := [("_law_some_here", 5)]) (g := gName 5) (tt := tYes) rfl sc_law_apart.nd (pi_list (pv 1))
          (blkOk_by (own := [("_law_some_here", 5)]) (N := ["_law_signs_here", "_law_lists", "_law_rule", "_law_begin", "_law_bundle_here", "_law_some_here", "_law_found", "_law_waiting", "_law_here", "_law_at", "_law_spots", "_law_sign", "_law_there"]) (sc := defScope s_law_apart) (by decide +kernel))
          (fun _ _ _ _ _ => pg_name (i := 5) sc_law_apart.nd rfl (by first | exact Or.inl rfl | exact Or.inr rfl)) (fun _ _ _ _ _ => pts_nil)
          (fun _ _ _ _ _ => (pe_callTy (call_tuple_ofK (K := K) rfl) (by rfl) T.b_tuple (show bootBuiltins "tuple" = some (.type "tuple") by decide +kernel) (pa_cons (pe_lc (own := [("_law_bundle_here", 4)]) (g := gName 4) (tt := tYes) rfl sc_law_apart.nd (pi_listK (K := K) rfl (pv 5))
          (blkOk_by (own := [("_law_bundle_here", 4)]) (N := ["_law_signs_here", "_law_lists", "_law_rule", "_law_begin", "_law_bundle_here", "_law_some_here", "_law_found", "_law_waiting", "_law_here", "_law_at", "_law_spots", "_law_sign", "_law_there"]) (by first | kernel_rfl | rfl))
          (fun _ _ _ _ _ => pg_name (i := 4) sc_law_apart.nd rfl (by first | exact Or.inl rfl | exact Or.inr rfl)) (fun _ _ _ _ _ => pts_nil)
          (fun _ _ _ _ _ => pe_int)) pa_nil)))) pa_nil)))
      (pss_cons (ps_par rfl sc_law_apart.nd (i := 6) (j := 7) rfl rfl (by decide) rfl rfl (pa_cons (pe_disp1X (u64 hr) (pv 3) pe_str) (pa_cons (pe_lst (pa_cons (pv 3) pa_nil)) pa_nil)) (by rfl))
      (pss_cons (ps_while PassesOwn.never (pt_cmpR (op_neD (u64 hr)) (pv 7) (pe_lst pa_nil) (nomark _))
        (pss_cons (ps_set (i := 8) sc_law_apart.nd rfl (by first | exact Or.inl rfl | exact Or.inr rfl) (pe_bm PySem.F.plainAttrs_list PySem.F.slot_list_pop PySem.F.type_list_pop mt_popAt (pv 7) (pa_cons pe_int pa_nil)))
      (pss_cons (ps_if (pt_val (pe_call (ok_law_hits T) (hr.mono (by decide)) (by rfl) T.law_hits.g T.law_hits.F.kp T.law_hits.b .nil pass0 (pa_cons (pv 2) (pa_cons (pe_lc (own := [("_law_spots", 10)]) (g := gName 10) (tt := tYes) rfl sc_law_apart.nd (pi_tup (pv 8))
          (blkOk_by (own := [("_law_spots", 10)]) (N := ["_law_signs_here", "_law_lists", "_law_rule", "_law_begin", "_law_bundle_here", "_law_some_here", "_law_found", "_law_waiting", "_law_here", "_law_at", "_law_spots", "_law_sign", "_law_there"]) (sc := defScope s_law_apart) (by decide +kernel))
          (fun _ _ _ _ _ => pg_name (i := 10) sc_law_apart.nd rfl (by first | exact Or.inl rfl | exact Or.inr rfl)) (fun _ _ _ _ _ => pts_nil)
          (fun _ _ _ _ _ => (pe_callB (cr_anyK (K := K) rfl rfl) (by rfl) T.b_any PyProof.Rows.boot_any (pa_cons (pe_lc (own := [("_law_at", 9)]) (g := gName 9) (tt := tYes) rfl sc_law_apart.nd (pi_tupK (K := K) rfl (pv 10))
          (blkOk_by (own := [("_law_at", 9)]) (N := ["_law_signs_here", "_law_lists", "_law_rule", "_law_begin", "_law_bundle_here", "_law_some_here", "_law_found", "_law_waiting", "_law_here", "_law_at", "_law_spots", "_law_sign", "_law_there"]) (by first | kernel_rfl | rfl))
          (fun _ _ _ _ _ => pg_name (i := 9) sc_law_apart.nd rfl (by first | exact Or.inl rfl | exact Or.inr rfl)) (fun _ _ _ _ _ => pts_nil)
          (fun _ _ _ _ _ => (pe_cmpR op_ge (pv 9) pe_int (by rfl)))) pa_nil)))) pa_nil)))) (pss_one (ps_ret (pe_xget (u64 hr) (pv 6) (pv 8) (fun _ _ => rfl)))) pss_nil)
      (pss_one (ps_for PassesOwn.never rfl (pi_str (pv 0)) (pg_name (i := 11) sc_law_apart.nd rfl (by first | exact Or.inl rfl | exact Or.inr rfl))
        (pss_cons (ps_set (i := 12) sc_law_apart.nd rfl (by first | exact Or.inl rfl | exact Or.inr rfl) (pe_callTy call_tuple_of (by rfl) T.b_tuple (show bootBuiltins "tuple" = some (.type "tuple") by decide +kernel) (pa_cons (pe_lc (own := [("_law_some_here", 5), ("_law_spots", 10)]) (tt := tYes) rfl sc_law_apart.nd (pi_zipS rfl T.b_zip (pa_cons (pv 1) (pa_cons (pv 8) pa_nil)))
          (blkOk_by (own := [("_law_some_here", 5), ("_law_spots", 10)]) (N := ["_law_signs_here", "_law_lists", "_law_rule", "_law_begin", "_law_bundle_here", "_law_some_here", "_law_found", "_law_waiting", "_law_here", "_law_at", "_law_spots", "_law_sign", "_law_there"]) (sc := defScope s_law_apart) (by decide +kernel))
          (fun _ _ _ _ _ => (pg_tupK (K := K) (n := 2) rfl rfl (pgs_cons (pg_name (i := 5) sc_law_apart.nd rfl (Or.inl rfl)) (pgs_cons (pg_name (i := 10) sc_law_apart.nd rfl (Or.inl rfl)) pgs_nil)) rfl)) (fun _ _ _ _ _ => pts_nil)
          (fun _ _ _ _ _ => (pe_call (ok_law_next T) (hr.mono (by decide)) (by rfl) T.law_next.g T.law_next.F.kp T.law_next.b .nil pass0 (pa_cons (pv 5) (pa_cons (pv 10) (pa_cons (pv 11) pa_nil)))))) pa_nil)))
      (pss_one (ps_if (pt_cmp (pc_xnotin (u64 hr) (pv 12) (pv 6))) (pss_cons (ps_xput (u64 hr) (pv 6) (pv 12) (pe_op op_addT (pe_xget (u64 hr) (pv 6) (pv 8) (fun _ _ => rfl)) (pv 11)) rfl)
      (pss_one (ps_expr (pe_bm PySem.F.plainAttrs_list PySem.F.slot_list_append PySem.F.type_list_append mt_append (pv 7) (pa_cons (pv 12) pa_nil))))) pss_nil))))))))
      (pss_one (ps_ret pe_non)))), ?_⟩
    dsimp only [cxOf]
    have hxl : (ll.map fun z => V.ref z.1).length = 2 := by rw [List.length_map]; exact hlen
    refine ⟨_, rfl, l, rfl, ⟨_, hS⟩, fun D1 nD1 => ?_⟩
    refine lc_it (walk_list (xs := ll.map fun z => V.ref z.1)) (fun i H' => Same H H' ∧ ∃ as, H' D1 = some (.lst (as.map V.ref)) ∧ as.length = i ∧ VA H' as ((stS (ll.map Prod.snd) []).take i)) ⟨same_upd nD1, [], upd_same, rfl, .nil⟩ (fun i H' _ pp => sq_same hS pp.1) (fun i x H1 H2 hi pp yy => ?_) (fun H1 pp => ?_)
    · obtain ⟨s1, as, hD1, hal, hva⟩ := pp
      obtain ⟨rfl, yy⟩ := yy
      rw [List.getElem?_map] at yy
      obtain ⟨z, hz, rfl⟩ := Option.map_eq_some_iff.mp yy
      obtain ⟨⟨bs, hbS, hbp, hbP⟩, hzA⟩ := hll z (List.mem_of_getElem? hz)
      have hbl : (rfs bs).length = z.2.length := by unfold rfs; rw [← hbp, List.length_map, List.length_map]
      have hzl := hzA.1
      refine ⟨rfl, yes_te ?_⟩
      refine ⟨_, rfl, z.1, rfl, ⟨_, sq_same hbS s1⟩, fun D2 nD2 => ?_⟩
      refine lc_gen (walk_list (xs := rfs bs)) (Same H2) (fun i acc => acc = List.replicate i (.int 0)) (sz (by omega)) (fun i acc e => by rw [e, List.length_replicate]; exact Nat.le_refl _) rfl (same_upd nD2) (fun _ _ h => same_up h nD2) (fun _ h => sq_same hbS (s1.trans h)) (fun i x1 H3 H4 acc C N hi r hD ha yy cc n => ?_) (fun H3 xs r hD ha => ?_)
      · obtain ⟨rfl, yy⟩ := yy
        exact ⟨rfl, yes_te (cc _ _ r hD (by rw [ha, List.replicate_succ']))⟩
      · subst ha
        refine ⟨D2, _, rfl, .inl ⟨.inl (.inl hD), fun b nb => ?_⟩⟩
        have sb := same_upd (o := .tup (List.replicate (rfs bs).length (V.int 0))) nb
        have h0 : vV (stV z.2 []) = List.replicate (rfs bs).length (V.int 0) := by
          rw [stV_nil, hbl]
          unfold vV
          rw [List.map_map]
          exact List.map_const' ..
        have hD1' := sb _ _ (r _ _ hD1)
        refine ⟨_, hD1', ?_, same_up ((s1.trans r).trans sb) nD1, as ++ [b], ?_, ?_, ?_⟩
        · rw [List.length_map, hal]; exact Nat.lt_of_lt_of_le (by omega : i < 100) (sz (by decide))
        · rw [upd_same, List.map_append]; rfl
        · rw [List.length_append, hal]; rfl
        · rw [List.take_add_one, show (stS (ll.map Prod.snd) [])[i]? = some (stV z.2 []) from by unfold stS; rw [List.getElem?_map, List.getElem?_map, hz]; rfl]
          exact VA.up (Paired.snocP (hva.same (r.trans sb)) (by rw [upd_same, h0])) hD1'
    · obtain ⟨s1, as, hD1, hal, hva⟩ := pp
      have hsl : (stS (ll.map Prod.snd) []).length = (ll.map fun z => V.ref z.1).length := by unfold stS; rw [List.length_map, List.length_map, List.length_map]
      rw [← hsl, List.take_length] at hva
      refine ⟨D1, _, rfl, .inl ⟨.inl (.inl hD1), fun bt nbt => ?_⟩⟩
      have sbt := same_upd (o := .tup (as.map V.ref)) nbt
      have hbt : Dp K (upd H1 bt (.tup (as.map V.ref))) (.ref bt) (dSt (stS (ll.map Prod.snd) [])) := .tup (.inl (.inl upd_same)) (hva.same sbt).dp
      have s2 := s1.trans sbt
      generalize upd H1 bt (.tup (as.map V.ref)) = H2 at *
      clear hva hD1 hsl hal nbt sbt s1
      dsimp only [gName]
      obtain ⟨ls, hls⟩ : ∃ ls, ls = ll.map Prod.snd := ⟨_, rfl⟩
      rw [← hls] at hD hbt q
      have hln : ls.length = 2 := by rw [hls, List.length_map]; exact hlen
      have hAll : ∀ ps ∈ ls, Asked ps := fun ps hps => by
        rw [hls] at hps
        obtain ⟨z, hz, rfl⟩ := List.mem_map.mp hps
        exact (hll z hz).2
      have h42 : ∀ c ∈ sg, c ≠ 42 := fun c hc => by have := hl.az c hc; omega
      have hsize : sizeLine = 16777216 := sizeLine_eq
      have nLs : ∀ (H' : Hp) (a : Addr) (xs : List V), H' a = some (.lst xs) → NoTup H' a := fun H' a xs e o e' => by
        rw [e] at e'
        cases e'
        exact ⟨fun _ z => (by cases z), fun _ _ z => (by cases z)⟩
      intro F nF
      refine ⟨_, rfl, upd_same, dSt (stS ls []), bt, rfl, Dp.same (same_upd nF) hbt, dSt_keyable _, dSt_depth _, ?_⟩
      have sF : Same H2 (upd (upd H2 F (TN P w F [])) F (TN P w F [(dSt (stS ls []), bt, V.str "")])) := same_up (same_upd nF) nF
      have hF3 : (upd (upd H2 F (TN P w F [])) F (TN P w F [(dSt (stS ls []), bt, V.str "")])) F = some (TN P w F [(dSt (stS ls []), bt, V.str "")]) := upd_same
      have nF0 := s2.free nF
      have hbt3 := Dp.same sF hbt
      have s3 := s2.trans sF
      generalize (upd (upd H2 F (TN P w F [])) F (TN P w F [(dSt (stS ls []), bt, V.str "")])) = H3 at *
      refine ⟨_, rfl, by show 1 ≤ sizeLine; decide, fun W nW => ?_⟩
      have sW := same_upd (o := .lst [V.ref bt]) nW
      have hW4 := upd_same (H := H3) (a := W) (o := .lst [V.ref bt])
      have hF4 := sW _ _ hF3
      have nW0 := s3.free nW
      have nW2 := sF.free nW
      have s4 := s3.trans sW
      have hFW : F ≠ W := fun z => by rw [← z, hF3] at nW; cases nW
      have sd4 : Same H2 (dels [F, W] (upd H3 W (.lst [V.ref bt]))) := fun b o e => by
        rw [dels_out (fun z => by
          rcases List.mem_cons.mp z with z | z
          · rw [z, nF] at e; cases e
          · rw [List.mem_singleton.mp z, nW2] at e; cases e)]
        exact sW _ _ (sF _ _ e)
      have hbt4 := Dp.same sd4 hbt
      generalize upd H3 W (.lst [V.ref bt]) = H4 at *
      clear hbt hbt3 hF3 sF s3 sW s2 nW nF nW2 sd4
      refine ⟨_, _, rfl, ?_⟩
      dsimp only
      refine while_fin (fun m σ H' => ∃ (xs : List V) (es : List EntN) (ks ws : List M23.St) (s8 s11 s12 : Option V), m = 2 * (2000000 - ks.length) + ws.length ∧ σ = [some (tx sg), some (.ref l), some (.str r), some (.ref bt), none, none, some (.ref F), some (.ref W), s8, none, none, s11, s12] ∧ Same H H' ∧ H' W = some (.lst xs) ∧ DpAll K (dels [F, W] H') xs (ws.map dSt) ∧ H' F = some (TN P w F es) ∧ es.map (·.1) = ks.map dSt ∧ Keys K (dels [F, W] H') es ∧ (∀ e ∈ es, ∃ t : List Nat, e.2.2 = tx t ∧ t.length ≤ es.length) ∧ M23.Bf sg ls (hitS hb) ks ws ∧ m ≤ 4000000)
        (fun σ H' => Same H H' ∧ ∀ t, M23.Over sg t → hitS hb (stS ls t) = false)
        ⟨_, [.ref bt], [(dSt (stS ls []), bt, V.str "")], [stS ls []], [stS ls []], none, none, none, rfl, rfl, s4, hW4, .cons hbt4 .nil, hF4, rfl, fun x hx => by rw [List.mem_singleton.mp hx]; exact ⟨hbt4, dSt_keyable _, dSt_depth _⟩, fun e he => by rw [List.mem_singleton.mp he]; exact ⟨[], rfl, Nat.zero_le _⟩, .init, by show 2 * (2000000 - 1) + 1 ≤ 4000000; decide⟩ (fun m σ H5 hw Kc kt kf => ?_) (fun σ H5 hw => q _ _ hw.1 (.inr ⟨hw.2, rfl⟩))
      obtain ⟨xs, es, ks, ws, s8, s11, s12, rfl, rfl, s5, hW5, hX, hF5, hes, hKy, hval, hB, hm4⟩ := hw
      have hkl : ks.length ≤ 2000000 := Nat.le_trans (M23.runs_len hD hB.runs hB.nod) hcnt
      have hshp := shp_ws hAll (by omega) (ws := ws) fun x hx => by obtain ⟨t, _, e⟩ := hB.runs x (hB.sub x hx); exact ⟨t, e⟩
      refine ⟨_, rfl, by show 0 ≤ sizeLine; decide, fun E0' nE => ?_⟩
      have sE := same_upd (o := .lst []) nE
      have hW6 := sE _ _ hW5
      have hF6 := sE _ _ hF5
      have hX6 := DpAll.same (dels_mono (l := [F, W]) sE) hX
      have hK6 := hKy.same (dels_mono (l := [F, W]) sE)
      have s6 := s5.trans sE
      have hE6 := upd_same (H := H5) (a := E0') (o := .lst [])
      generalize upd H5 E0' (.lst []) = H6 at *
      clear hX hKy hF5 hW5 sE s5 nE
      refine ⟨.list (ws.map dSt), .list [], .lst (xs := xs) (.inl (.inl hW6)) (DpAll.same (dels_same _ _) hX6), .lst (.inl (.inl hE6)) .nil, hshp, rfl, ?_⟩
      rw [eq_nilS]
      cases ws with
      | nil => exact ⟨_, rfl, kf _ ⟨s6, hB.none⟩⟩
      | cons s0 ws =>
        refine ⟨_, rfl, kt _ ?_⟩
        have hBI := hB.pop
        obtain ⟨t0, ht0, hst⟩ := hB.runs s0 (hB.sub _ List.mem_cons_self)
        obtain ⟨u, v, hs0⟩ : ∃ u v, s0 = [u, v] := by
          have : s0.length = 2 := by rw [← hst]; unfold stS; rw [List.length_map]; exact hln
          match s0, this with
          | [u, v], _ => exact ⟨u, v, rfl⟩
        obtain ⟨x0, xs', rfl, hx0, hXt⟩ := dpAll_cons hX6
        clear hX6
        have hX6 := hXt
        clear hXt
        obtain ⟨ah, xs0, rfl, hS0, hA0⟩ := dp_tuple hx0
        have hxl0 : xs0.length = s0.length := by rw [dpAll_len hA0, List.length_map]
        refine ⟨_, rfl, .inl ⟨rfl, _, .inl (.inl hW6)⟩, W, _, (0 : Int), 0, _, rfl, rfl, hW6, by decide, by decide, by simp [seqIndex?], rfl, ?_⟩
        have e1 : dels [F, W] (upd H6 W (.lst ((V.ref ah :: xs').eraseIdx 0))) = dels [F, W] H6 := dels_upd (by simp)
        have hW7 : (upd H6 W (.lst ((V.ref ah :: xs').eraseIdx 0))) W = some (.lst xs') := upd_same
        have hF7 : (upd H6 W (.lst ((V.ref ah :: xs').eraseIdx 0))) F = some (TN P w F es) := by rw [upd_ne hFW]; exact hF6
        have s7 : Same H (upd H6 W (.lst ((V.ref ah :: xs').eraseIdx 0))) := same_up s6 nW0
        rw [← e1] at hx0 hX6 hK6 hS0 hA0
        generalize upd H6 W (.lst ((V.ref ah :: xs').eraseIdx 0)) = H7 at *
        clear e1 hW6 hF6 s6 hE6 hB hshp
        have hx7 := Dp.same (dels_same _ _) hx0
        have hS7 := sqT_same hS0 (dels_same _ _)
        have hA7 := DpAll.same (dels_same _ _) hA0
        dsimp only [gName]
        refine seq_to ?_
        refine join (fun σ' H' => σ' = [some (tx sg), some (.ref l), some (.str r), some (.ref bt), none, none, some (.ref F), some (.ref W), some (.ref ah), none, none, s11, s12] ∧ Same H7 H' ∧ hitS hb s0 = false) (fun N hN => ?_) (fun σ' H8 p8 => ?_)
        · refine ⟨_, rfl, _, rfl, ah, rfl, ⟨_, hS7⟩, fun D3 nD3 => ?_⟩
          refine lc_gen (walk_tup (xs := xs0)) (Same H7) (fun i acc => acc = (s0.take i).map fun v => V.bl (v.any Option.isSome)) (sz (by rw [hxl0, hs0]; show 2 ≤ 100000; decide)) (fun i acc e => by rw [e, List.length_map, List.length_take]; omega) rfl (same_upd nD3) (fun _ _ h => same_up h nD3) (fun _ h => sqT_same hS7 h) (fun i x1 H8 H9 acc C N hi r8 hD8 ha yy cc n => ?_) (fun H8 xs8 r8 hD8 ha => ?_)
          · obtain ⟨rfl, yy⟩ := yy
            obtain ⟨d, hd1, hd2⟩ := dpAll_back hA7 yy
            rw [List.getElem?_map] at hd1
            obtain ⟨v1, hv1, rfl⟩ := Option.map_eq_some_iff.mp hd1
            obtain ⟨b1, rfl, hb1⟩ := dV_at hd2
            have hvl : (vV v1).length = v1.length := List.length_map _
            refine ⟨rfl, yes_te ?_⟩
            have hbz : (vV v1).length ≤ sizeLine := by
              obtain ⟨ps, hps, e⟩ : ∃ ps ∈ ls, stV ps t0 = v1 := by
                have := List.mem_of_getElem? hv1
                rw [← hst] at this
                unfold stS at this
                obtain ⟨ps, h1, h2⟩ := List.mem_map.mp this
                exact ⟨ps, h1, h2⟩
              rw [hvl, ← e]
              unfold M23.stV
              rw [List.length_map]
              have := (hAll ps hps).1
              omega
            refine ⟨_, rfl, b1, rfl, ⟨_, sqT_same hb1 r8⟩, fun D4 nD4 => ?_⟩
            refine lc_gen (walk_tup (xs := vV v1)) (Same H9) (fun j acc => acc = (v1.take j).map fun o => V.bl o.isSome) hbz (fun j acc e => by rw [e, List.length_map, List.length_take]; omega) rfl (same_upd nD4) (fun _ _ h => same_up h nD4) (fun _ h => sqT_same hb1 (r8.trans h)) (fun j x2 H10 H11 acc2 C2 N2 hj r10 hD10 ha2 yy2 cc2 n2 => ?_) (fun H10 xs10 r10 hD10 ha2 => ?_)
            · obtain ⟨rfl, yy2⟩ := yy2
              rw [show (vV v1)[j]? = (v1[j]?).map fun o => V.int (M23.enc o) from List.getElem?_map] at yy2
              obtain ⟨o, ho, rfl⟩ := Option.map_eq_some_iff.mp yy2
              refine ⟨rfl, yes_te ⟨_, rfl, _, _, rfl, rfl, cc2 _ _ r10 hD10 ?_⟩⟩
              rw [ha2, List.take_add_one, ho, List.map_append]
              show _ ++ [V.bl (decide ((0 : Int) ≤ M23.enc o))] = _
              rw [enc_ge]
              rfl
            · rw [hvl, List.take_length] at ha2
              subst ha2
              refine ⟨D4, v1.map Option.isSome, rfl, .inl (.inl (by rw [hD10, List.map_map]; rfl)), ?_⟩
              refine cc _ _ (r8.trans r10) (r10 _ _ hD8) ?_
              rw [ha, List.take_add_one, hv1, List.map_append, List.any_map]
              rfl
          · rw [hxl0, List.take_length, hs0] at ha
            subst ha
            have fin : hitS hb s0 = hb (u.any Option.isSome) (v.any Option.isSome) := by rw [hs0]; rfl
            refine ⟨D3, r, u.any Option.isSome, v.any Option.isSome, rfl, .inl (.inl hD8), ?_⟩
            rcases hrule with ⟨rfl, rfl⟩ | ⟨rfl, rfl⟩
            · refine .inl ⟨rfl, _, rfl, ?_⟩
              rw [show (u.any Option.isSome && !v.any Option.isSome) = hitS (fun x y => x && !y) s0 from fin.symm]
              cases hk : hitS (fun x y => x && !y) s0 with
              | false => exact ite_f rfl (hN _ _ ⟨rfl, r8, hk⟩)
              | true =>
                refine ite_t rfl ?_
                have hin : s0 ∈ ks := hBI.mem
                obtain ⟨v0, hv0⟩ : ∃ v0, valN es (keyN (dSt s0)) = some v0 := Option.isSome_iff_exists.mp (by rw [val_st hes]; exact decide_eq_true hin)
                obtain ⟨e, he, rfl⟩ := val_in hv0
                obtain ⟨t', ht', _⟩ := hval e he
                exact ⟨_, rfl, _, rfl, F, _, rfl, .inr ⟨es, dSt s0, ah, r8 _ _ hF7, rfl, Dp.same r8 hx7, dSt_keyable _, dSt_depth _, hK6.same ((dels_same _ _).trans r8), hv0⟩, q _ _ (s7.trans r8) (.inl ⟨⟨t0, ht0, by rw [hst]; exact hk⟩, t', ht'⟩)⟩
            · refine .inr ⟨rfl, _, rfl, ?_⟩
              rw [show (u.any Option.isSome != v.any Option.isSome) = hitS bne s0 from fin.symm]
              cases hk : hitS bne s0 with
              | false => exact ite_f rfl (hN _ _ ⟨rfl, r8, hk⟩)
              | true =>
                refine ite_t rfl ?_
                have hin : s0 ∈ ks := hBI.mem
                obtain ⟨v0, hv0⟩ : ∃ v0, valN es (keyN (dSt s0)) = some v0 := Option.isSome_iff_exists.mp (by rw [val_st hes]; exact decide_eq_true hin)
                obtain ⟨e, he, rfl⟩ := val_in hv0
                obtain ⟨t', ht', _⟩ := hval e he
                exact ⟨_, rfl, _, rfl, F, _, rfl, .inr ⟨es, dSt s0, ah, r8 _ _ hF7, rfl, Dp.same r8 hx7, dSt_keyable _, dSt_depth _, hK6.same ((dels_same _ _).trans r8), hv0⟩, q _ _ (s7.trans r8) (.inl ⟨⟨t0, ht0, by rw [hst]; exact hk⟩, t', ht'⟩)⟩
        · obtain ⟨rfl, r8, hbad⟩ := p8
          have sH8 := s7.trans r8
          have hW8 := r8 _ _ hW7
          have hF8 := r8 _ _ hF7
          have rd := dels_mono (l := [F, W]) r8
          have hX8 := DpAll.same rd hX6
          have hK8 := hK6.same rd
          have hx8 := Dp.same rd hx0
          have hS8 := sqT_same hS0 rd
          have hA8 := DpAll.same rd hA0
          clear hx0 hX6 hK6 hS0 hA0 hx7 hS7 hA7 hW7 hF7 rd s7 r8
          refine ⟨_, rfl, tS sg, rfl, ?_⟩
          refine for_it walk_tx (fun j σ H' => ∃ (xs : List V) (es : List EntN) (ks' ws' : List M23.St) (s11 s12 : Option V), σ = [some (tx sg), some (.ref l), some (.str r), some (.ref bt), none, none, some (.ref F), some (.ref W), some (.ref ah), none, none, s11, s12] ∧ Same H H' ∧ Same (dels [F, W] H8) (dels [F, W] H') ∧ H' W = some (.lst xs) ∧ DpAll K (dels [F, W] H') xs (ws'.map dSt) ∧ H' F = some (TN P w F es) ∧ es.map (·.1) = ks'.map dSt ∧ Keys K (dels [F, W] H') es ∧ (∀ e ∈ es, ∃ t : List Nat, e.2.2 = tx t ∧ t.length ≤ es.length) ∧ M23.BfI sg ls (hitS hb) ks' ws' s0 j ∧ 2 * (2000000 - ks'.length) + ws'.length ≤ 2 * (2000000 - ks.length) + ws.length)
            ⟨xs', es, ks, ws, s11, s12, rfl, sH8, Same.refl _, hW8, hX8, hF8, hes, hK8, hval, hBI, Nat.le_refl _⟩ (fun _ _ _ _ _ => trivial) (fun j xv σ H9 H10 hj pj yy => ?_) (fun σ H9 pj => ?_)
          · clear hX8 hK8 hW8 hF8 hes hval sH8 hBI
            obtain ⟨xs, es, ks', ws', s11, s12, rfl, s9, sdd, hW9, hX9, hF9, hes, hKy, hval, hBI, hms⟩ := pj
            obtain ⟨rfl, ch, hch, rfl⟩ := yy
            have s89 := s9
            have hx9 := Dp.same sdd hx8
            have hS9 := sqT_same (sqT_same hS8 sdd) (dels_same _ _)
            have hA9 := DpAll.same (sdd.trans (dels_same _ _)) hA8
            have hkl9 : ks'.length ≤ 2000000 := Nat.le_trans (M23.runs_len hD hBI.runs hBI.nod) hcnt
            have hc42 := h42 ch (List.mem_of_getElem? hch)
            have hnl : (nxS ls s0 ch).length = 2 := by unfold M23.nxS; rw [List.length_zipWith, hln, hs0]; rfl
            have hvst : ∀ (i : Nat) v1 z, s0[i]? = some v1 → ll[i]? = some z → v1 = stV z.2 t0 := fun i v1 z h1 h2 => by
              rw [← hst, hls] at h1
              unfold M23.stS at h1
              rw [List.getElem?_map, List.getElem?_map, h2] at h1
              exact (Option.some.inj h1).symm
            refine ⟨_, rfl, _, rfl, .L l, .T ah, ll.map (fun z => V.ref z.1), xs0, rfl, sq_same hS s9, hS9, fun D5 nD5 => ?_⟩
            refine lc_it (walk_zipS (by rw [hxl, hxl0, hs0]; rfl)) (fun i H' => Same H10 H' ∧ ∃ as, H' D5 = some (.lst (as.map V.ref)) ∧ as.length = i ∧ VA H' as ((nxS ls s0 ch).take i)) ⟨same_upd nD5, [], upd_same, rfl, .nil⟩ (fun i H' _ pp => ⟨sq_same hS (s9.trans pp.1), sqT_same hS9 pp.1⟩) (fun i x H11 H12 hi pp yy => ?_) (fun H11 pp => ?_)
            · obtain ⟨s11', as, hD5, hal, hva⟩ := pp
              obtain ⟨Tp, x1, x2, rfl, nT, rfl, e1, e2⟩ := yy
              have e1 : (ll.map fun z => V.ref z.1)[i]? = some x1 := e1
              have e2 : xs0[i]? = some x2 := e2
              rw [List.getElem?_map] at e1
              obtain ⟨z, hz, rfl⟩ := Option.map_eq_some_iff.mp e1
              obtain ⟨d, hd1, hd2⟩ := dpAll_back hA9 e2
              rw [List.getElem?_map] at hd1
              obtain ⟨v1, hv1, rfl⟩ := Option.map_eq_some_iff.mp hd1
              obtain ⟨b1, rfl, hb1⟩ := dV_at hd2
              obtain ⟨hzB, hzA⟩ := hll z (List.mem_of_getElem? hz)
              have hvz := hvst i v1 z hv1 hz
              have sT := same_upd (o := .tup [V.ref z.1, V.ref b1]) nT
              have s1T := s11'.trans sT
              refine ⟨Tp, _, rfl, .inl (.inl upd_same), rfl, _, _, rfl, _, _, rfl, rfl, ⟨rfl, yes_te ?_⟩⟩
              refine ⟨_, rfl, _, rfl, _, rfl, .ref z.1, .ref b1, z.2, v1, ch, rfl, (hzB.same (s9.trans s1T)).bun, hzA, Dp.same s1T hd2, by rw [hvz]; exact spot_st _ _, hc42, fun H13 b2 s13 n2 h2 => ?_⟩
              have hD5' := s13 _ _ (sT _ _ hD5)
              refine ⟨_, hD5', ?_, same_up (s1T.trans s13) nD5, as ++ [b2], ?_, ?_, ?_⟩
              · rw [List.length_map, hal]
                have : i < 2 := by rw [hxl] at hi; exact hi
                exact Nat.lt_of_lt_of_le (by omega : i < 100) (sz (by decide))
              · rw [upd_same, List.map_append]; rfl
              · rw [List.length_append, hal]; rfl
              · have hni : (nxS ls s0 ch)[i]? = some (nxV z.2 v1 ch) := by
                  unfold M23.nxS
                  rw [List.getElem?_zipWith, hls, List.getElem?_map, hz, hv1]
                  rfl
                rw [List.take_add_one, hni]
                exact VA.up (Paired.snocP (hva.same (sT.trans s13)) h2) hD5'
            · obtain ⟨s11', as, hD5, hal, hva⟩ := pp
              rw [hxl, ← hnl, List.take_length] at hva
              refine ⟨D5, _, rfl, .inl ⟨.inl (.inl hD5), fun lt nlt => ?_⟩⟩
              have st := same_upd (o := .tup (as.map V.ref)) nlt
              have hW11 := s11' _ _ hW9
              have hF11 := s11' _ _ hF9
              have nts : ∀ a ∈ [F, W], NoTup H11 a := fun a ha => by
                rcases List.mem_cons.mp ha with rfl | ha
                · intro o e
                  rw [hF11] at e
                  cases e
                  unfold TN
                  exact ⟨fun _ z => (by cases z), fun _ _ z => (by cases z)⟩
                · rw [List.mem_singleton.mp ha]; exact nLs _ _ _ hW11
              have hltF : lt ∉ [F, W] := fun z => by
                rcases List.mem_cons.mp z with z | z
                · rw [z, hF11] at nlt; cases nlt
                · rw [List.mem_singleton.mp z, hW11] at nlt; cases nlt
              have sdl := dels_mono (l := [F, W]) st
              have hqd : Dp K (dels [F, W] (upd H11 lt (.tup (as.map V.ref)))) (.ref lt) (dSt (nxS ls s0 ch)) := .tup (.inl (.inl (by rw [dels_out hltF, upd_same]))) ((hva.dels nts).same sdl).dp
              have s12' := (s9.trans s11').trans st
              have rdd := (dels_mono (l := [F, W]) s11').trans sdl
              have sdd2 := sdd.trans rdd
              have hW12 := st _ _ hW11
              have hF12 := st _ _ hF11
              have hX12 := DpAll.same rdd hX9
              have hK12 := hKy.same rdd
              have hx12 := Dp.same rdd hx9
              generalize upd H11 lt (.tup (as.map V.ref)) = H12 at *
              clear hva hD5 s11' st sdl nts hltF hW11 hF11 nlt rdd hX9 hKy hW9 hF9 hA9 hS9 hx9 sdd s9 s89
              have hel : es.length = ks'.length := by have := congrArg List.length hes; rw [List.length_map, List.length_map] at this; exact this
              have hqq := Dp.same (dels_same _ _) hqd
              dsimp only [gName]
              refine ⟨_, rfl, _, rfl, F, _, rfl, .inr ⟨es, dSt (nxS ls s0 ch), lt, hF12, rfl, hqq, dSt_keyable _, dSt_depth _, hK12.same (dels_same _ _), rfl⟩, _, rfl, ?_⟩
              rw [val_st hes]
              by_cases hmq : nxS ls s0 ch ∈ ks'
              · refine ite_f (by rw [decide_eq_true hmq]; rfl) ?_
                exact ⟨xs, es, ks', ws', _, _, rfl, s12', sdd2, hW12, hX12, hF12, hes, hK12, hval, hBI.old hch hmq, hms⟩
              · refine ite_t (by rw [decide_eq_false hmq]; rfl) ?_
                have hB2 := hBI.new hch hmq
                have hkl2 := Nat.le_trans (M23.runs_len hD hB2.runs hB2.nod) hcnt
                rw [List.length_append, List.length_singleton] at hkl2
                obtain ⟨v0, hv0⟩ : ∃ v0, valN es (keyN (dSt s0)) = some v0 := Option.isSome_iff_exists.mp (by rw [val_st hes]; exact decide_eq_true hBI.mem)
                obtain ⟨e, he, rfl⟩ := val_in hv0
                obtain ⟨t', ht', htl⟩ := hval e he
                refine ⟨_, rfl, _, rfl, F, _, rfl, .inr ⟨es, dSt s0, ah, hF12, rfl, Dp.same (dels_same _ _) hx12, dSt_keyable _, dSt_depth _, hK12.same (dels_same _ _), hv0⟩, _, rfl, t', [ch], ht', rfl, by show t'.length + 1 ≤ sizeLine; omega, ?_⟩
                refine ⟨_, rfl, _, rfl, F, _, rfl, .inr ⟨es, dSt (nxS ls s0 ch), lt, hF12, rfl, hqq, dSt_keyable _, dSt_depth _, hK12.same (dels_same _ _), val_st_no hes hmq, by omega, rfl⟩, ?_⟩
                have e1 : dels [F, W] (upd H12 F (TN P w F (es ++ [(dSt (nxS ls s0 ch), lt, tx (t' ++ [ch]))]))) = dels [F, W] H12 := dels_upd (by simp)
                have hF13 : upd H12 F (TN P w F (es ++ [(dSt (nxS ls s0 ch), lt, tx (t' ++ [ch]))])) F = some (TN P w F (es ++ [(dSt (nxS ls s0 ch), lt, tx (t' ++ [ch]))])) := upd_same
                have hW13 : upd H12 F (TN P w F (es ++ [(dSt (nxS ls s0 ch), lt, tx (t' ++ [ch]))])) W = some (.lst xs) := by rw [upd_ne hFW.symm]; exact hW12
                have s13 : Same H (upd H12 F (TN P w F (es ++ [(dSt (nxS ls s0 ch), lt, tx (t' ++ [ch]))]))) := same_up s12' nF0
                rw [← e1] at hqd sdd2 hX12 hK12
                generalize upd H12 F (TN P w F (es ++ [(dSt (nxS ls s0 ch), lt, tx (t' ++ [ch]))])) = H13 at *
                clear e1 hW12 hF12 hx12 hqq s12'
                have hxl9 : xs.length = ws'.length := by rw [dpAll_len hX12, List.length_map]
                have hm5 : 2 * (2000000 - ks.length) + (ws.length + 1) ≤ 4000000 := hm4
                refine ⟨_, rfl, .inl ⟨rfl, _, .inl (.inl hW13)⟩, _, rfl, W, _, _, rfl, rfl, hW13, by omega, ?_⟩
                have e2 : dels [F, W] (upd H13 W (.lst (xs ++ [.ref lt]))) = dels [F, W] H13 := dels_upd (by simp)
                refine ⟨_, es ++ [(dSt (nxS ls s0 ch), lt, tx (t' ++ [ch]))], ks' ++ [nxS ls s0 ch], ws' ++ [nxS ls s0 ch], _, _, rfl, same_up s13 nW0, by rw [e2]; exact sdd2, upd_same, by rw [e2, List.map_append]; exact dpAll_app hX12 (.cons hqd .nil), by rw [upd_ne hFW]; exact hF13, by rw [List.map_append, List.map_append, hes]; rfl, fun x hx => ?_, fun x hx => ?_, hB2, ?_⟩
                · rw [e2]
                  rcases List.mem_append.mp hx with hx | hx
                  · exact hK12 x hx
                  · rw [List.mem_singleton.mp hx]
                    exact ⟨hqd, dSt_keyable _, dSt_depth _⟩
                · rw [List.length_append, List.length_singleton]
                  rcases List.mem_append.mp hx with hx | hx
                  · obtain ⟨u, h1, h2⟩ := hval x hx
                    exact ⟨u, h1, by omega⟩
                  · rw [List.mem_singleton.mp hx]
                    exact ⟨t' ++ [ch], rfl, by rw [List.length_append, List.length_singleton]; omega⟩
                · rw [List.length_append, List.length_append, List.length_singleton]
                  omega
          · obtain ⟨xs, es, ks', ws', s11, s12, rfl, s9, sdd, hW9, hX9, hF9, hes, hKy, hval, hBI, hms⟩ := pj
            refine ⟨_, ?_, xs, es, ks', ws', _, _, _, rfl, rfl, s9, hW9, hX9, hF9, hes, hKy, hval, hBI.next hbad, ?_⟩
            · show 2 * (2000000 - ks'.length) + ws'.length < 2 * (2000000 - ks.length) + (ws.length + 1)
              omega
            · have : 2 * (2000000 - ks.length) + (ws.length + 1) ≤ 4000000 := hm4
              omega
end
end Lw
namespace M23
/-- the piece at k stands beside a star that has all its letters -/
def idleAt (l : Pd) (k : Nat) : Prop := ∃ x, l[k]? = some x ∧ ((∃ y, 0 < k ∧ l[k - 1]? = some y ∧ isS y = true ∧ holds y x = true) ∨ ∃ y, l[k + 1]? = some y ∧ isS y = true ∧ holds y x = true)
theorem idle_out {l : Pd} {k : Nat} (h : idleAt l k) : Eqv l (l.eraseIdx k) := by
  obtain ⟨x, hx, h⟩ := h
  obtain ⟨hk, e⟩ := List.getElem?_eq_some_iff.mp hx
  have e1 : l = l.take k ++ x :: l.drop (k + 1) := by
    rw [← e, ← List.drop_eq_getElem_cons hk, List.take_append_drop]
  have e2 : l.eraseIdx k = l.take k ++ l.drop (k + 1) := List.eraseIdx_eq_take_drop_succ ..
  rw [e2]
  conv => lhs; rw [e1]
  refine leave_eqv ?_
  rcases h with ⟨y, h0, hy, h1, h2⟩ | ⟨y, hy, h1, h2⟩
  · refine .inl ⟨l.take (k - 1), y, ?_, h1, h2⟩
    have : l.take k = l.take (k - 1 + 1) := by rw [show k - 1 + 1 = k by omega]
    rw [this, List.take_add_one, hy]
    rfl
  · refine .inr ⟨y, l.drop (k + 2), ?_, h1, h2⟩
    obtain ⟨hk1, e3⟩ := List.getElem?_eq_some_iff.mp hy
    rw [List.drop_eq_getElem_cons hk1, e3]
theorem no_idle {l : Pd} (h : ∀ k, ¬ idleAt l k) : Red l := red_iff.mpr fun u a b v e z => by
  subst e
  rcases z with ⟨z1, z2⟩ | ⟨z1, z2⟩
  · refine h (u.length + 1) ⟨b, by simp, .inl ⟨a, by omega, by simp, z1, z2⟩⟩
  · exact h u.length ⟨a, by simp, .inr ⟨b, by simp, z1, z2⟩⟩
theorem ok_all {x y : Pc} (hx : Ok x) (hy : Ok y) (hs : isS y = true) : (x.all fun c => decide (c ∈ y)) = holds y x := by
  rcases hy with ⟨d, hd, rfl⟩ | ⟨l, h1, h2, h3, rfl⟩
  · rw [isS_one hd] at hs; cases hs
  · unfold holds
    rw [if_pos hs, lt_star]
    have key : ∀ c, c ≠ 42 → decide (c ∈ l ++ [42]) = decide (c ∈ l) := fun c hc => decide_eq_decide.mpr ⟨fun z => (List.mem_append.mp z).elim id fun z => absurd (List.mem_singleton.mp z) hc, fun z => List.mem_append_left _ z⟩
    rcases hx with ⟨d, hd, rfl⟩ | ⟨m, g1, g2, g3, rfl⟩
    · rw [lt_one hd]
      simp [key d hd]
      exact fun e => absurd e hd
    · rw [lt_star, Bool.eq_iff_iff, List.all_eq_true, List.all_eq_true]
      constructor
      · intro z c hc
        have hc42 : c ≠ 42 := fun e => g3 (e ▸ hc)
        rw [← key c hc42]
        exact z c (List.mem_append_left _ hc)
      · intro z c hc
        rcases List.mem_append.mp hc with hc | hc
        · have hc42 : c ≠ 42 := fun e => g3 (e ▸ hc)
          rw [key c hc42]
          exact z c hc
        · rw [List.mem_singleton.mp hc]
          exact decide_eq_true (List.mem_append_right _ (List.mem_singleton.mpr rfl))
end M23
namespace Lw
open PySem PySem.Spec PyProof.Rows L3
open L2 hiding del del_same del_ne
theorem cutV_nn (xs : List V) (i j : Nat) : cutV xs (some (i : Int)) (some (j : Int)) = (xs.drop (min i xs.length)).take (min j xs.length - min i xs.length) := by
  unfold cutV
  rw [HT.sIx_nat, HT.sIx_nat]
/-- what stands beside the piece at k -/
def nb (p : M23.Pd) (k : Nat) : M23.Pd := (p.drop (k - 1)).take (k - (k - 1)) ++ (p.drop (k + 1)).take 1
theorem nb_mem {p : M23.Pd} {k : Nat} (hk : k < p.length) {y : M23.Pc} : y ∈ nb p k ↔ (0 < k ∧ p[k - 1]? = some y) ∨ p[k + 1]? = some y := by
  unfold nb
  rw [List.mem_append]
  have h1 : y ∈ (p.drop (k + 1)).take 1 ↔ p[k + 1]? = some y := by
    cases e : p[k + 1]? with
    | none => rw [List.drop_of_length_le (List.getElem?_eq_none_iff.mp e)]; simp
    | some z =>
      obtain ⟨h, e⟩ := List.getElem?_eq_some_iff.mp e
      rw [List.drop_eq_getElem_cons h, List.take_succ_cons, List.take_zero, e, List.mem_singleton]
      exact ⟨fun z => by rw [z], fun z => (Option.some.inj z).symm⟩
  have h2 : y ∈ (p.drop (k - 1)).take (k - (k - 1)) ↔ 0 < k ∧ p[k - 1]? = some y := by
    by_cases h0 : k = 0
    · subst h0; simp
    · have hk1 : k - 1 < p.length := by omega
      rw [show k - (k - 1) = 1 by omega, List.drop_eq_getElem_cons hk1, List.take_succ_cons, List.take_zero, List.mem_singleton, List.getElem?_eq_getElem hk1]
      exact ⟨fun z => ⟨by omega, by rw [z]⟩, fun z => (Option.some.inj z.2).symm⟩
  rw [h1, h2]
theorem nb_idle {p : M23.Pd} {k : Nat} {x : M23.Pc} (hx : p[k]? = some x) : M23.idleAt p k ↔ ∃ y ∈ nb p k, M23.isS y = true ∧ M23.holds y x = true := by
  have hk := (List.getElem?_eq_some_iff.mp hx).1
  constructor
  · rintro ⟨x', hx', h⟩
    rw [hx] at hx'
    cases hx'
    rcases h with ⟨y, h0, h1, h2, h3⟩ | ⟨y, h1, h2, h3⟩
    · exact ⟨y, (nb_mem hk).mpr (.inl ⟨h0, h1⟩), h2, h3⟩
    · exact ⟨y, (nb_mem hk).mpr (.inr h1), h2, h3⟩
  · rintro ⟨y, hy, h2, h3⟩
    refine ⟨x, hx, ?_⟩
    rcases (nb_mem hk).mp hy with ⟨h0, h1⟩ | h1
    · exact .inl ⟨y, h0, h1, h2, h3⟩
    · exact .inr ⟨y, h1, h2, h3⟩
theorem nb_sub {p : M23.Pd} {k : Nat} {y : M23.Pc} (h : y ∈ nb p k) : y ∈ p := by
  rcases List.mem_append.mp h with h | h
  · exact List.mem_of_mem_drop (List.mem_of_mem_take h)
  · exact List.mem_of_mem_drop (List.mem_of_mem_take h)
section
variable {P : Program} {w : World} {K : PySem.W.Frag} {mg : Str → Option Value} {base : Heap}
def spIdle (K : PySem.W.Frag) : Sp := fun vs H Q _ => ∃ (a : Addr) (p : M23.Pd), vs = [.ref a] ∧ SqL K H a (p.map tx) ∧ p.length ≤ 100 ∧ (∀ y ∈ p, M23.Ok y ∧ y.length ≤ 10) ∧ ∀ H' (r : Int), Same H H' → ((∃ k : Nat, r = k ∧ k < p.length ∧ M23.idleAt p k) ∨ (r = -1 ∧ ∀ k, ¬ M23.idleAt p k)) → Q (.int r) H'
theorem ok_law_idle (T : All K mg) : FnOk P w K mg base CX0 1 T.f_law_idle T.d_law_idle ["_law_pieces"] (spIdle K) := by
  refine T.law_idle.F.ok sc_law_idle (fun vs H Q E h => ?_) (fun cdv A outer s H vs Q E hr h => ?_)
  · obtain ⟨a, p, rfl, _⟩ := h
    rfl
  · obtain ⟨a, p, rfl, hs, hz, hyl, q⟩ := h
    refine ⟨_, pss_cons (ps_for PassesOwn.never rfl (pi_enumS rfl T.b_enumerate (pa_cons (pv 0) pa_nil)) (pg_tup rfl (pgs_cons (pg_name (i := 1) sc_law_idle.nd rfl (by first | exact Or.inl rfl | exact Or.inr rfl)) (pgs_cons (pg_name (i := 2) sc_law_idle.nd rfl (by first | exact Or.inl rfl | exact Or.inr rfl)) pgs_nil)))
        (pss_one (ps_for PassesOwn.never rfl (pi_list (pe_op op_cat (pe_slice sl_list (pv 0) (po_some (pe_callB (call_max2 rfl) (by rfl) T.b_max PyProof.Rows.boot_max (pa_cons pe_int (pa_cons (pe_op op_sub (pv 1) pe_int) pa_nil)))) (po_some (pv 1))) (pe_slice sl_list (pv 0) (po_some (pe_op op_add (pv 1) pe_int)) (po_some (pe_op op_add (pv 1) pe_int))))) (pg_name (i := 3) sc_law_idle.nd rfl (by first | exact Or.inl rfl | exact Or.inr rfl))
        (pss_one (ps_if (PW.pt (pw_and (pt_cmpR op_gt (pe_callB call_lenT (by rfl) T.b_len PySem.boot_len (pa_cons (pv 3) pa_nil)) pe_int (nomark _)) (pw_and1 (pt_val (pe_callB (cr_all rfl) (by rfl) T.b_all PyProof.Rows.boot_all (pa_cons (pe_lc (own := [("_law_sign", 4)]) (g := gName 4) (tt := tYes) rfl sc_law_idle.nd (pi_str (pv 2))
          (blkOk_by (own := [("_law_sign", 4)]) (N := ["_law_pieces", "_law_k", "_law_piece_here", "_law_near", "_law_sign"]) (sc := defScope s_law_idle) (by decide +kernel))
          (fun _ _ _ _ _ => pg_name (i := 4) sc_law_idle.nd rfl (by first | exact Or.inl rfl | exact Or.inr rfl)) (fun _ _ _ _ _ => pts_nil)
          (fun _ _ _ _ _ => (pe_cmpR op_in_sign (pv 4) (pv 3) (by rfl)))) pa_nil)))))) (pss_one (ps_ret (pv 1))) pss_nil)))))
      (pss_one (ps_ret (pe_un un_neg pe_int))), ?_⟩
    dsimp only [cxOf]
    obtain ⟨y, ey, hy⟩ := sq_src ⟨a, rfl, .inl hs⟩
    have hpl : (p.map tx).length = p.length := List.length_map _
    have hsize : sizeLine = 16777216 := sizeLine_eq
    refine ⟨_, rfl, y, p.map tx, congrArg (fun z => [z]) ey, hy _ (Same.refl _), for_it walk_enumS (fun i σ H' => ∃ g1 g2 g3, σ = [some (.ref a), g1, g2, g3, none] ∧ Same H H' ∧ ∀ k, k < i → ¬ M23.idleAt p k) ⟨none, none, none, rfl, Same.refl _, fun k h => by omega⟩ (fun i σ H' _ pp => by obtain ⟨_, _, _, _, sm, _⟩ := pp; exact hy _ sm) (fun i x' σ H1 H2 hi pp yy => ?_) (fun σ H1 pp => ?_)⟩
    · obtain ⟨g1, g2, g3, rfl, s1, hno⟩ := pp
      obtain ⟨Tp, x1, x2, rfl, nT, rfl, e1, e2⟩ := yy
      cases e1
      have e2 : (p.map tx)[i]? = some x2 := e2
      rw [List.getElem?_map] at e2
      obtain ⟨x, hx, rfl⟩ := Option.map_eq_some_iff.mp e2
      have hxok := hyl x (List.mem_of_getElem? hx)
      have hik : i < p.length := by omega
      have s2 := same_up (o := .tup [.int (i : Nat), tx x]) s1 (s1.free nT)
      refine ⟨Tp, _, rfl, .inl (.inl upd_same), rfl, _, _, rfl, _, _, rfl, rfl, ?_⟩
      generalize upd H1 Tp (.tup [.int (i : Nat), tx x]) = H2 at *
      clear s1 nT
      have hmx : (if ((i : Nat) : Int) - 1 > 0 then ((i : Nat) : Int) - 1 else 0) = ((i - 1 : Nat) : Int) := by split <;> omega
      have c1 : cutV (p.map tx) (some (if ((i : Nat) : Int) - 1 > 0 then ((i : Nat) : Int) - 1 else 0)) (some ((i : Nat) : Int)) = ((p.drop (i - 1)).take (i - (i - 1))).map tx := by
        rw [hmx, cutV_nn, hpl, List.map_take, List.map_drop, show min (i - 1) p.length = i - 1 by omega, show min i p.length = i by omega]
      have c2 : cutV (p.map tx) (some (((i : Nat) : Int) + 1)) (some (((i : Nat) : Int) + 2)) = ((p.drop (i + 1)).take 1).map tx := by
        rw [show ((i : Nat) : Int) + 1 = ((i + 1 : Nat) : Int) by omega, show ((i : Nat) : Int) + 2 = ((i + 2 : Nat) : Int) by omega, cutV_nn, hpl, List.map_take, List.map_drop, show min (i + 1) p.length = i + 1 by omega]
        by_cases h : i + 2 ≤ p.length
        · rw [show min (i + 2) p.length - (i + 1) = 1 by omega]
        · rw [List.drop_of_length_le (by rw [hpl]; omega), List.take_nil, List.take_nil]
      refine ⟨_, rfl, _, rfl, _, _, rfl, rfl, _, _, rfl, _, rfl, _, rfl, _, rfl, a, _, rfl, sq_same hs s2, fun p1 np1 => ?_⟩
      have t1 := same_upd (o := .lst (cutV (p.map tx) (some (if ((i : Nat) : Int) - 1 > 0 then ((i : Nat) : Int) - 1 else 0)) (some ((i : Nat) : Int)))) np1
      have hp1 : upd H2 p1 (.lst (cutV (p.map tx) (some (if ((i : Nat) : Int) - 1 > 0 then ((i : Nat) : Int) - 1 else 0)) (some ((i : Nat) : Int)))) p1 = some (.lst (((p.drop (i - 1)).take (i - (i - 1))).map tx)) := by rw [upd_same, c1]
      have s3 := s2.trans t1
      generalize upd H2 p1 (.lst (cutV (p.map tx) (some (if ((i : Nat) : Int) - 1 > 0 then ((i : Nat) : Int) - 1 else 0)) (some ((i : Nat) : Int)))) = H3 at *
      refine ⟨_, rfl, _, rfl, _, _, rfl, rfl, _, rfl, _, rfl, _, _, rfl, rfl, _, rfl, a, _, rfl, sq_same hs s3, fun p2 np2 => ?_⟩
      have t2 := same_upd (o := .lst (cutV (p.map tx) (some (((i : Nat) : Int) + 1)) (some (((i : Nat) : Int) + 2)))) np2
      have hp2 : upd H3 p2 (.lst (cutV (p.map tx) (some (((i : Nat) : Int) + 1)) (some (((i : Nat) : Int) + 2)))) p2 = some (.lst (((p.drop (i + 1)).take 1).map tx)) := by rw [upd_same, c2]
      have hp1' := t2 _ _ hp1
      have s4 := s3.trans t2
      show rCat (.ref p1) (.ref p2) (upd H3 p2 (.lst (cutV (p.map tx) (some (((i : Nat) : Int) + 1)) (some (((i : Nat) : Int) + 2))))) _
      generalize upd H3 p2 (.lst (cutV (p.map tx) (some (((i : Nat) : Int) + 1)) (some (((i : Nat) : Int) + 2)))) = H4 at *
      clear t1 t2 hp1 s2 s3 np1 np2
      refine ⟨p1, p2, _, _, rfl, rfl, hp1', hp2, ?_, fun p3 np3 => ?_⟩
      · rw [List.length_map, List.length_map, List.length_take, List.length_take, List.length_drop, List.length_drop]; omega
      rw [← List.map_append]
      have t3 := same_upd (o := .lst ((nb p i).map tx)) np3
      have hp3 := upd_same (H := H4) (a := p3) (o := .lst ((nb p i).map tx))
      have s5 := s4.trans t3
      have hnb : (p.drop (i - 1)).take (i - (i - 1)) ++ (p.drop (i + 1)).take 1 = nb p i := rfl
      rw [hnb]
      generalize upd H4 p3 (.lst ((nb p i).map tx)) = H5 at *
      clear hp1' hp2 s4 t3 np3 c1 c2 hmx hnb
      refine ⟨p3, rfl, ⟨_, .inl (.inl hp3)⟩, ?_⟩
      have hnl : ((nb p i).map tx).length = (nb p i).length := List.length_map _
      refine for_it (walk_list (xs := (nb p i).map tx)) (fun j σ H' => ∃ g3, σ = [some (.ref a), some (.int (i : Nat)), some (tx x), g3, none] ∧ Same H H' ∧ H' p3 = some (.lst ((nb p i).map tx)) ∧ ∀ y ∈ (nb p i).take j, ¬ (M23.isS y = true ∧ M23.holds y x = true)) ⟨g3, rfl, s5, hp3, fun y hy => by simp at hy⟩ (fun j σ H' _ pp => by obtain ⟨_, _, _, h, _⟩ := pp; exact .inl (.inl h)) (fun j x' σ H6 H7 hj pp yy => ?_) (fun σ H6 pp => ?_)
      · obtain ⟨g3, rfl, s6, hp6, hno2⟩ := pp
        obtain ⟨rfl, yy⟩ := yy
        rw [List.getElem?_map] at yy
        obtain ⟨y, hy', rfl⟩ := Option.map_eq_some_iff.mp yy
        have hym := List.mem_of_getElem? hy'
        obtain ⟨hyok, hyz⟩ := hyl y (nb_sub hym)
        have skip : ¬ (M23.isS y = true ∧ M23.holds y x = true) → ∀ H', Same H H' → H' p3 = some (.lst ((nb p i).map tx)) → ∃ g3, [some (.ref a), some (.int (i : Nat)), some (tx x), some (tx y), none] = [some (V.ref a), some (.int (i : Nat)), some (tx x), g3, none] ∧ Same H H' ∧ H' p3 = some (.lst ((nb p i).map tx)) ∧ ∀ y ∈ (nb p i).take (j + 1), ¬ (M23.isS y = true ∧ M23.holds y x = true) := fun hn H' sh hh => ⟨_, rfl, sh, hh, fun z hz => by
          rw [List.take_add_one, hy'] at hz
          rcases List.mem_append.mp hz with hz | hz
          · exact hno2 z hz
          · rw [List.mem_singleton.mp hz]; exact hn⟩
        refine ⟨_, rfl, y, rfl, by omega, _, _, rfl, rfl, _, rfl, ?_⟩
        have el : decide ((1 : Int) < (y.length : Int)) = M23.isS y := ok_long hyok
        rw [el]
        refine ite2 (fun e => ?_) (fun e => ?_)
        · refine ⟨_, rfl, tS x, rfl, fun D nD => ?_⟩
          refine lc_gen walk_tx (Same H7) (fun m acc => acc = (x.take m).map fun c => V.bl (decide (c ∈ y))) (sz (by have := hxok.2; omega)) (fun m acc e => by rw [e, List.length_map, List.length_take]; omega) rfl (same_upd nD) (fun _ _ h => same_up h nD) (fun _ _ => trivial) (fun m u H8 H9 acc C N hm r hD ha yy2 cc n => ?_) (fun H8 xs r hD ha => ?_)
          · obtain ⟨rfl, ch, hc, rfl⟩ := yy2
            refine ⟨rfl, yes_te ⟨_, rfl, _, rfl, ch, tS y, rfl, rfl, cc _ _ r hD ?_⟩⟩
            rw [ha, List.take_add_one, hc, List.map_append]
            rfl
          · subst ha
            rw [List.take_length] at hD
            refine ⟨D, x.map fun c => decide (c ∈ y), rfl, .inl (.inl (by rw [hD, List.map_map]; rfl)), ?_⟩
            have ee : (x.map fun c => decide (c ∈ y)).all id = M23.holds y x := by
              rw [List.all_map]
              exact M23.ok_all hxok.1 hyok e
            rw [ee]
            refine ⟨_, rfl, ite2 (fun e2 => ?_) (fun e2 => ?_)⟩
            · exact ⟨_, rfl, q _ _ (s6.trans r) (.inl ⟨i, rfl, hik, (nb_idle hx).mpr ⟨y, hym, e, e2⟩⟩)⟩
            · exact skip (fun z => e2 z.2) _ (s6.trans r) (r _ _ hp6)
        · exact ite_f rfl (skip (fun z => e z.1) _ s6 hp6)
      · obtain ⟨g3, rfl, s6, hp6, hno2⟩ := pp
        rw [hnl, List.take_length] at hno2
        refine ⟨_, _, _, rfl, s6, fun k hk hid => ?_⟩
        by_cases e : k = i
        · subst e
          obtain ⟨y, h1, h2, h3⟩ := (nb_idle hx).mp hid
          exact hno2 y h1 ⟨h2, h3⟩
        · exact hno k (by omega) hid
    · obtain ⟨g1, g2, g3, rfl, s1, hno⟩ := pp
      refine ⟨_, rfl, q _ _ s1 (.inr ⟨rfl, fun k hk => ?_⟩)⟩
      have : k < p.length := by
        obtain ⟨x, hx, _⟩ := hk
        exact (List.getElem?_eq_some_iff.mp hx).1
      exact hno k (by omega) hk
def spLReduced (K : PySem.W.Frag) : Sp := fun vs H Q _ => ∃ (v : V) (p : M23.Pd), vs = [v] ∧ Dp K H v (M23.dP p) ∧ p.length ≤ 100 ∧ (∀ y ∈ p, M23.Ok y ∧ y.length ≤ 10) ∧ ∀ H' a, Same H H' → H a = none → H' a = some (.tup ((M23.redOf p).map tx)) → Q (.ref a) H'
theorem ok_law_reduced (T : All K mg) : FnOk P w K mg base CX0 2 T.f_law_reduced T.d_law_reduced ["_law_bundle_here"] (spLReduced K) := by
  refine T.law_reduced.F.ok sc_law_reduced (fun vs H Q E h => ?_) (fun cdv A outer s H vs Q E hr h => ?_)
  · obtain ⟨v, p, rfl, _⟩ := h
    rfl
  · obtain ⟨v, p, rfl, hd, hz, hyl, q⟩ := h
    refine ⟨_, pss_cons (ps_set (i := 1) sc_law_reduced.nd rfl (by first | exact Or.inl rfl | exact Or.inr rfl) (pe_callTy call_list_of (by rfl) T.b_list PyProof.Rows.boot_list (pa_cons (pv 0) pa_nil)))
      (pss_cons (ps_set (i := 2) sc_law_reduced.nd rfl (by first | exact Or.inl rfl | exact Or.inr rfl) (pe_call (ok_law_idle T) (hr.mono (by decide)) (by rfl) T.law_idle.g T.law_idle.F.kp T.law_idle.b .nil pass0 (pa_cons (pv 1) pa_nil)))
      (pss_cons (ps_while PassesOwn.never (pt_cmpR op_ge (pv 2) pe_int (nomark _))
        (pss_cons (ps_expr (pe_bm PySem.F.plainAttrs_list PySem.F.slot_list_pop PySem.F.type_list_pop mt_popAt (pv 1) (pa_cons (pv 2) pa_nil)))
      (pss_one (ps_set (i := 2) sc_law_reduced.nd rfl (by first | exact Or.inl rfl | exact Or.inr rfl) (pe_call (ok_law_idle T) (hr.mono (by decide)) (by rfl) T.law_idle.g T.law_idle.F.kp T.law_idle.b .nil pass0 (pa_cons (pv 1) pa_nil))))))
      (pss_one (ps_ret (pe_callTy call_tuple_of (by rfl) T.b_tuple (show bootBuiltins "tuple" = some (.type "tuple") by decide +kernel) (pa_cons (pv 1) pa_nil)))))), ?_⟩
    dsimp only [cxOf]
    obtain ⟨a, rfl, hs⟩ := dp_pd hd
    have hsize : sizeLine = 16777216 := sizeLine_eq
    refine ⟨_, rfl, a, _, rfl, .inr hs, fun L nL => ?_⟩
    have sL := same_upd (o := .lst (p.map tx)) nL
    have hL := upd_same (H := H) (a := L) (o := .lst (p.map tx))
    generalize upd H L (.lst (p.map tx)) = H1 at *
    refine ⟨_, rfl, L, p, rfl, .inl (.inl hL), hz, hyl, fun H2 r s2 hr2 => ?_⟩
    refine while_fin (fun m σ H' => ∃ (left : M23.Pd) (r : Int), m = left.length ∧ σ = [some (.ref a), some (.ref L), some (.int r)] ∧ Same H H' ∧ H' L = some (.lst (left.map tx)) ∧ M23.Eqv p left ∧ (∀ y ∈ left, y ∈ p) ∧ left.length ≤ 100 ∧ ((∃ k : Nat, r = k ∧ k < left.length ∧ M23.idleAt left k) ∨ (r = -1 ∧ ∀ k, ¬ M23.idleAt left k)))
      (fun σ H' => ∃ (left : M23.Pd) (r : Int), σ = [some (.ref a), some (.ref L), some (.int r)] ∧ Same H H' ∧ H' L = some (.lst (left.map tx)) ∧ M23.Eqv p left ∧ (∀ y ∈ left, y ∈ p) ∧ ∀ k, ¬ M23.idleAt left k)
      ⟨_, p, r, rfl, rfl, sL.trans s2, s2 _ _ hL, .refl p, fun y h => h, hz, hr2⟩ (fun m σ H3 hw Kc kt kf => ?_) (fun σ H3 hw => ?_)
    · obtain ⟨left, r, rfl, rfl, s3, hL3, he, hsub, hlz, hr3⟩ := hw
      refine ⟨_, rfl, _, _, rfl, rfl, _, rfl, ?_⟩
      rcases hr3 with ⟨k, rfl, hk, hid⟩ | ⟨rfl, hno⟩
      · rw [decide_eq_true (show (0 : Int) ≤ (k : Int) by omega)]
        refine kt _ ?_
        have hkx : (left.map tx)[k]? = some (tx left[k]) := by rw [List.getElem?_map, List.getElem?_eq_getElem hk]; rfl
        refine ⟨_, rfl, .inl ⟨rfl, _, .inl (.inl hL3)⟩, _, rfl, L, _, (k : Int), k, _, rfl, rfl, hL3, by omega, by omega, ?_, hkx, ?_⟩
        · unfold seqIndex?; simp; omega
        have hL4 : upd H3 L (.lst ((left.map tx).eraseIdx k)) L = some (.lst ((left.eraseIdx k).map tx)) := by rw [upd_same, List.eraseIdx_eq_take_drop_succ, List.eraseIdx_eq_take_drop_succ, List.map_append, List.map_take, List.map_drop]
        have s4 : Same H (upd H3 L (.lst ((left.map tx).eraseIdx k))) := same_up s3 nL
        generalize upd H3 L (.lst ((left.map tx).eraseIdx k)) = H4 at *
        have hel : (left.eraseIdx k).length = left.length - 1 := by rw [List.length_eraseIdx_of_lt hk]
        have hsub2 : ∀ y ∈ left.eraseIdx k, y ∈ p := fun y hy => hsub y (List.mem_of_mem_eraseIdx hy)
        refine ⟨_, rfl, L, left.eraseIdx k, rfl, .inl (.inl hL4), by omega, fun y hy => hyl y (hsub2 y hy), fun H5 r5 s5 hr5 => ?_⟩
        exact ⟨(left.eraseIdx k).length, by omega, left.eraseIdx k, r5, rfl, rfl, s4.trans s5, s5 _ _ hL4, he.trans (M23.idle_out hid), hsub2, by omega, hr5⟩
      · refine kf _ ⟨left, -1, rfl, s3, hL3, he, hsub, hno⟩
    · obtain ⟨left, r, rfl, s3, hL3, he, hsub, hno⟩ := hw
      have hfin : M23.redOf p = left := M23.redOf_uniq (fun x hx => (hyl x hx).1) (fun x hx => (hyl x (hsub x hx)).1) (M23.no_idle hno) he
      refine ⟨_, rfl, L, _, rfl, .inl ⟨.inl (.inl hL3), fun b nb => ?_⟩⟩
      exact q _ b (s3.trans (same_upd nb)) (s3.free nb) (by rw [upd_same, hfin])
end
end Lw
namespace Lw
open PySem PySem.Spec PyProof.Rows L3
open L2 hiding del del_same del_ne
open M23 (stS stV)
theorem pick_map {α β : Type} {f : α → β} {B : List α} : ∀ {L : List β}, (∀ p ∈ L, p ∈ B.map f) → ∃ Lp : List α, L = Lp.map f ∧ ∀ x ∈ Lp, x ∈ B
  | [], _ => ⟨[], rfl, fun x h => by cases h⟩
  | y :: L, h => by
    obtain ⟨Lp, rfl, h2⟩ := pick_map (L := L) fun p hp => h p (List.mem_cons_of_mem _ hp)
    obtain ⟨x, hx, rfl⟩ := List.mem_map.mp (h y List.mem_cons_self)
    exact ⟨x :: Lp, rfl, fun z hz => by
      rcases List.mem_cons.mp hz with rfl | hz
      · exact hx
      · exact h2 z hz⟩
theorem lt_over {sg x : List Nat} (hl : Lets sg) (h : PcOk sg x) : ∀ c ∈ M23.lt x, c ∈ sg := by
  rcases h with ⟨c, hc, rfl⟩ | ⟨l, h1, h2, h3, rfl⟩
  · have : c ≠ 42 := fun e => hl.no (e ▸ hc)
    rw [M23.lt_one this]
    exact fun d hd => by rw [List.mem_singleton.mp hd]; exact hc
  · rw [M23.lt_star]
    exact h3
theorem unr_over {sg : List Nat} (hl : Lets sg) {N : Nat} {p : M23.Pd} (h : PdOk sg p) : M23.Over sg (M23.unr N p) := by
  intro c hc
  unfold M23.unr at hc
  obtain ⟨b, hb, hc⟩ := List.mem_flatten.mp hc
  obtain ⟨x, hx, rfl⟩ := List.mem_map.mp hb
  unfold M23.blk at hc
  split at hc
  · obtain ⟨d, hd, hc⟩ := List.mem_flatten.mp hc
    rw [(List.mem_replicate.mp hd).2] at hc
    exact lt_over hl (h x hx) c hc
  · rename_i hs
    have h1 := h x hx
    have h2 := lt_over hl h1 c
    unfold M23.lt at h2
    rw [if_neg hs] at h2
    exact h2 hc
theorem beyond_iff {sg : List Nat} (hl : Lets sg) {p q : M23.Pd} (hp : PdOk sg p) : (∃ t, M23.Over sg t ∧ hitS (fun x y => x && !y) (stS [[p], [q]] t) = true) ↔ ¬ M23.Emb p q := by
  have key : ∀ t, hitS (fun x y => x && !y) (stS [[p], [q]] t) = ((M23.runI p 0 (M23.tP t)).isSome && !(M23.runI q 0 (M23.tP t)).isSome) := fun t => by
    show (((M23.runI p 0 (M23.tP t)).isSome || false) && !((M23.runI q 0 (M23.tP t)).isSome || false)) = _
    rw [Bool.or_false, Bool.or_false]
  constructor
  · rintro ⟨t, _, h⟩ e
    rw [key, Bool.and_eq_true, Bool.not_eq_true'] at h
    have h1 : M23.In p t := M23.runI_some.mp h.1
    have h2 : (M23.runI q 0 (M23.tP t)).isSome = true := M23.runI_some.mpr (h1.up e)
    rw [h.2] at h2
    cases h2
  · intro h
    have hok : ∀ x ∈ p, M23.Ok x := fun x hx => (hp x hx).ok hl
    refine ⟨M23.unr (q.length + 1) p, unr_over hl hp, ?_⟩
    rw [key, Bool.and_eq_true, Bool.not_eq_true']
    refine ⟨M23.runI_some.mpr (M23.unr_in _ hok), ?_⟩
    cases hh : (M23.runI q 0 (M23.tP (M23.unr (q.length + 1) p))).isSome with
    | false => rfl
    | true => exact absurd (M23.emb_of_unr hok (Nat.lt_succ_self q.length) (M23.runI_some.mp hh)) h
section
variable {P : Program} {w : World} {K : PySem.W.Frag} {mg : Str → Option Value} {base : Heap}
def spLKept (K : PySem.W.Frag) : Sp := fun vs H Q _ => ∃ (sg : List Nat) (l : Addr) (bs : List AP), vs = [tx sg, .ref l] ∧ Lets sg ∧ (SqL K H l (rfs bs) ∨ SqT K H l (rfs bs)) ∧ Prods K H bs ∧ bs.length ≤ 20 ∧ (∀ b ∈ bs, PdOk sg b.2 ∧ b.2.length ≤ 100) ∧
  ∀ H' p (cs : List AP), Same H H' → H p = none → H' p = some (.lst (rfs cs)) → Prods K H' cs → cs.map Prod.snd = M23.kept (bs.map Prod.snd) → Q (.ref p) H'
theorem ok_law_kept (T : All K mg) : FnOk P w K mg base CX0 5 T.f_law_kept T.d_law_kept ["_law_signs_here", "_law_some_here"] (spLKept K) := by
  refine T.law_kept.F.ok sc_law_kept (fun vs H Q E h => ?_) (fun cdv A outer s H vs Q E hr h => ?_)
  · obtain ⟨sg, l, bs, rfl, _⟩ := h
    rfl
  · obtain ⟨sg, l, bs, rfl, hl, hS, hP, hz, hok, k⟩ := h
    refine ⟨_, pss_cons (ps_set (i := 2) sc_law_kept.nd rfl (by first | exact Or.inl rfl | exact Or.inr rfl) (pe_callB (cr_sortTS rfl (u64 hr)) (by rfl) T.b_sorted PyProof.Rows.boot_sorted (pa_cons (pe_callTy (cr_setTT rfl (u64 hr)) (by rfl) T.b_set (show bootBuiltins "set" = some (.type "set") by decide +kernel) (pa_cons (pe_lc (own := [("_law_bundle_here", 3)]) (g := gName 3) (tt := tYes) rfl sc_law_kept.nd (pi_sq (pv 1))
          (blkOk_by (own := [("_law_bundle_here", 3)]) (N := ["_law_signs_here", "_law_some_here", "_law_bare", "_law_bundle_here", "_law_found", "_law_far"]) (sc := defScope s_law_kept) (by decide +kernel))
          (fun _ _ _ _ _ => pg_name (i := 3) sc_law_kept.nd rfl (by first | exact Or.inl rfl | exact Or.inr rfl)) (fun _ _ _ _ _ => pts_nil)
          (fun _ _ _ _ _ => (pe_call (ok_law_reduced T) (hr.mono (by decide)) (by rfl) T.law_reduced.g T.law_reduced.F.kp T.law_reduced.b .nil pass0 (pa_cons (pv 3) pa_nil)))) pa_nil)) pa_nil)))
      (pss_cons (ps_set (i := 4) sc_law_kept.nd rfl (by first | exact Or.inl rfl | exact Or.inr rfl) (pe_lst pa_nil))
      (pss_cons (ps_for PassesOwn.never rfl (pi_list (pv 2)) (pg_name (i := 3) sc_law_kept.nd rfl (by first | exact Or.inl rfl | exact Or.inr rfl))
        (pss_one (ps_if (pt_val (pe_callB (cr_all rfl) (by rfl) T.b_all PyProof.Rows.boot_all (pa_cons (pe_lc (own := [("_law_far", 5)]) (g := gName 5) (tt := tYes) rfl sc_law_kept.nd (pi_list (pv 2))
          (blkOk_by (own := [("_law_far", 5)]) (N := ["_law_signs_here", "_law_some_here", "_law_bare", "_law_bundle_here", "_law_found", "_law_far"]) (sc := defScope s_law_kept) (by decide +kernel))
          (fun _ _ _ _ _ => pg_name (i := 5) sc_law_kept.nd rfl (by first | exact Or.inl rfl | exact Or.inr rfl)) (fun _ _ _ _ _ => pts_nil)
          (fun _ _ _ _ _ => (pe_or (pe_cmpR (op_eqDK (K := K) rfl (u64 hr)) (pv 5) (pv 3) (by rfl))
        (pe_one (pe_cmpR op_notN (pe_call (ok_law_apart T) (hr.mono (by decide)) (by rfl) T.law_apart.g T.law_apart.F.kp T.law_apart.b .nil pass0 (pa_cons (pv 0) (pa_cons (pe_lst (pa_cons (pe_lst (pa_cons (pv 3) pa_nil)) (pa_cons (pe_lst (pa_cons (pv 5) pa_nil)) pa_nil))) (pa_cons pe_str pa_nil)))) pe_non (by rfl)))))) pa_nil))) (pss_one (ps_expr (pe_bm PySem.F.plainAttrs_list PySem.F.slot_list_append PySem.F.type_list_append mt_append (pv 4) (pa_cons (pv 3) pa_nil)))) pss_nil)))
      (pss_one (ps_ret (pv 4))))), ?_⟩
    dsimp only [cxOf]
    have hS' : Sq K H (.ref l) (rfs bs) := ⟨l, rfl, hS⟩
    have hbl : (rfs bs).length = bs.length := List.length_map _
    have hsize : sizeLine = 16777216 := sizeLine_eq
    refine ⟨_, rfl, rfs bs, H, hS', Same.refl H, fun J G wk hG D nD => ?_⟩
    refine lc_it wk (fun i H' => Same H H' ∧ ∃ L : List AP, H' D = some (.lst (rfs L)) ∧ L.length = i ∧ L.map Prod.snd = (bs.take i).map (fun b => M23.redOf b.2) ∧ ∀ x ∈ L, H' x.1 = some (.tup (x.2.map tx))) ⟨same_upd nD, [], upd_same, rfl, rfl, fun x h => by cases h⟩ (fun i H' _ pp => hG H' pp.1) (fun i x H1 H2 hi pp yy => ?_) (fun H1 pp => ?_)
    · obtain ⟨s1, L, hD, hLl, hL, hLp⟩ := pp
      obtain ⟨rfl, yy⟩ := yy
      rw [show (rfs bs)[i]? = (bs[i]?).map fun b => V.ref b.1 from List.getElem?_map] at yy
      obtain ⟨b, hb, rfl⟩ := Option.map_eq_some_iff.mp yy
      have hbm := List.mem_of_getElem? hb
      obtain ⟨hbo, hbz⟩ := hok b hbm
      refine ⟨rfl, yes_te ?_⟩
      refine ⟨_, rfl, .ref b.1, b.2, rfl, pd_dp (sqT_same (hP b hbm) s1), hbz, fun y hy => ⟨(hbo y hy).ok hl, Nat.le_trans ((hbo y hy).len hl) (by decide)⟩, fun H3 a s3 na ha => ?_⟩
      have hD3 := s3 _ _ hD
      have hnaD : a ≠ D := fun z => by rw [z, hD] at na; cases na
      refine ⟨_, hD3, by unfold rfs; rw [List.length_map, hLl]; omega, same_up (s1.trans s3) nD, L ++ [(a, M23.redOf b.2)], ?_, ?_, ?_, fun x hx => ?_⟩
      · rw [upd_same]; unfold rfs; rw [List.map_append]; rfl
      · rw [List.length_append, hLl]; rfl
      · rw [List.map_append, hL, List.take_add_one, hb, List.map_append]; rfl
      · rcases List.mem_append.mp hx with hx | hx
        · exact up_tup hD3 (s3 _ _ (hLp x hx))
        · rw [List.mem_singleton.mp hx]
          rw [upd_ne hnaD]
          exact ha
    · obtain ⟨s1, L, hD, hLl, hL, hLp⟩ := pp
      rw [hbl, List.take_length] at hL
      have hLl2 : L.length = bs.length := by omega
      have hLm : L.map Prod.snd = (bs.map Prod.snd).map M23.redOf := by rw [hL, List.map_map]; rfl
      have hLz : ∀ x ∈ L, PdOk sg x.2 ∧ x.2.length ≤ 100 := fun x hx => by
        have : x.2 ∈ bs.map (fun b => M23.redOf b.2) := hL ▸ List.mem_map_of_mem hx
        obtain ⟨b, hb, e⟩ := List.mem_map.mp this
        rw [← e]
        exact ⟨fun y hm => (hok b hb).1 y (M23.redOf_mem hm), Nat.le_trans (M23.redOf_len b.2) (hok b hb).2⟩
      have hrf : rfs L = (L.map txs).map fun p => V.ref p.1 := by unfold rfs; rw [List.map_map]; rfl
      have hLd : ∀ H', Same H1 H' → ∀ p ∈ L.map txs, Dp K H' (.ref p.1) (dS p.2) := fun H' sh p hp => by
        obtain ⟨x, hx, rfl⟩ := List.mem_map.mp hp
        exact pd_dp (.inl (.inl (sh _ _ (hLp x hx))))
      refine ⟨D, L.map txs, rfl, .inl (.inl (by rw [hD, hrf])), hLd _ (Same.refl _), by rw [List.length_map]; omega, fun sA L2 nsA hsub hall hnd hlen => ?_⟩
      obtain ⟨Lp, rfl, hLpm⟩ := pick_map hsub
      have s2 := s1.trans (same_upd (o := SetS P w sA (Lp.map txs)) nsA)
      have hsA := upd_same (H := H1) (a := sA) (o := SetS P w sA (Lp.map txs))
      have hLp2 : ∀ x ∈ L, upd H1 sA (SetS P w sA (Lp.map txs)) x.1 = some (.tup (x.2.map tx)) := fun x hx => same_upd nsA _ _ (hLp x hx)
      have hLd2 := hLd _ (same_upd (o := SetS P w sA (Lp.map txs)) nsA)
      generalize upd H1 sA (SetS P w sA (Lp.map txs)) = H2 at *
      refine ⟨sA, Lp.map txs, rfl, hsA, fun p hp => hLd2 p (hsub p hp), fun p bb hperm np => ?_⟩
      obtain ⟨kk, hkp, rfl⟩ := perm_map hperm rfl
      rw [srt_txs, List.map_map]
      have hcan : (srtP kk).map Prod.snd = M23.canon ((bs.map Prod.snd).map M23.redOf) := by
        rw [← hLm]
        refine M23.canon_uniq ?_ ?_ fun x => ?_
        · rw [((srtP_perm kk).map Prod.snd).nodup_iff, (hkp.map Prod.snd).nodup_iff]
          rw [List.map_map] at hnd
          have : (Prod.snd ∘ txs : AP → List Str) = M23.sS ∘ Prod.snd := rfl
          rw [this, ← List.map_map] at hnd
          exact List.Pairwise.of_map M23.sS (fun a b h e => h (by rw [e])) hnd
        · rw [List.pairwise_map]; exact srtP_sorted _
        · rw [((srtP_perm kk).map Prod.snd).mem_iff, (hkp.map Prod.snd).mem_iff]
          constructor
          · intro hx
            obtain ⟨y, hy, rfl⟩ := List.mem_map.mp hx
            exact List.mem_map_of_mem (hLpm y hy)
          · intro hx
            obtain ⟨y, hy, rfl⟩ := List.mem_map.mp hx
            have h1 := hall (txs y) (List.mem_map_of_mem hy)
            rw [List.map_map] at h1
            obtain ⟨z, hz, e⟩ := List.mem_map.mp h1
            exact List.mem_map.mpr ⟨z, hz, M23.sS_inj e⟩
      have hcm : ∀ x ∈ srtP kk, x ∈ L := fun x hx => hLpm x (hkp.mem_iff.mp ((srtP_perm kk).mem_iff.mp hx))
      have hcl : (srtP kk).length ≤ 20 := by
        rw [(srtP_perm kk).length_eq, hkp.length_eq]
        rw [List.length_map, List.length_map] at hlen
        omega
      have hS2 : ((fun p : Addr × List Str => V.ref p.1) ∘ txs) = fun b : AP => V.ref b.1 := rfl
      rw [hS2]
      have s3 := s2.trans (same_upd (o := .lst (rfs (srtP kk))) np)
      have hC := upd_same (H := H2) (a := p) (o := .lst (rfs (srtP kk)))
      have hcp : ∀ x ∈ srtP kk, upd H2 p (.lst (rfs (srtP kk))) x.1 = some (.tup (x.2.map tx)) := fun x hx => same_upd np _ _ (hLp2 x (hcm x hx))
      have hcz : ∀ x ∈ srtP kk, PdOk sg x.2 ∧ x.2.length ≤ 100 := fun x hx => hLz x (hcm x hx)
      show gName 2 (.ref p) _ (upd H2 p (.lst (rfs (srtP kk)))) _
      generalize upd H2 p (.lst (rfs (srtP kk))) = HA at *
      generalize srtP kk = cs at *
      clear hLd hLd2 hLp hLp2 hcm hLz hLpm hperm hsub hall hnd hlen hkp hsA hD hrf hLm hL hLl hLl2 s2
      refine ⟨by show 0 ≤ sizeLine; decide, fun F nF => ?_⟩
      have hFn := s3.free nF
      have sF := same_upd (o := .lst []) nF
      have hF0 := upd_same (H := HA) (a := F) (o := .lst [])
      have hcs : (rfs cs).length = cs.length := List.length_map _
      generalize upd HA F (.lst []) = HB at *
      refine ⟨_, rfl, p, rfl, ⟨_, .inl (.inl (sF _ _ hC))⟩, ?_⟩
      refine for_it (walk_list (xs := rfs cs)) (fun i σ H' => ∃ g3, σ = [some (tx sg), some (.ref l), some (.ref p), g3, some (.ref F), none] ∧ Same HA H' ∧ H' F = some (.lst (rfs ((cs.take i).filter fun c => !(cs.any fun d => !decide (c.2 = d.2) && (M23.runI d.2 0 c.2).isSome))))) ⟨none, rfl, sF, hF0⟩ (fun i σ H' _ pp => by obtain ⟨_, _, e, _⟩ := pp; exact .inl (.inl (e _ _ hC))) (fun i x σ H3 H4 hi pp yy => ?_) (fun σ H3 pp => ?_)
      · obtain ⟨g3, rfl, s4, hF⟩ := pp
        obtain ⟨rfl, yy⟩ := yy
        rw [show (rfs cs)[i]? = (cs[i]?).map fun b => V.ref b.1 from List.getElem?_map] at yy
        obtain ⟨b, hb, rfl⟩ := Option.map_eq_some_iff.mp yy
        have hbm := List.mem_of_getElem? hb
        have hbz := hcz b hbm
        have hfil : (cs.take (i + 1)).filter (fun c => !(cs.any fun d => !decide (c.2 = d.2) && (M23.runI d.2 0 c.2).isSome)) = (cs.take i).filter (fun c => !(cs.any fun d => !decide (c.2 = d.2) && (M23.runI d.2 0 c.2).isSome)) ++ if (!(cs.any fun d => !decide (b.2 = d.2) && (M23.runI d.2 0 b.2).isSome)) = true then [b] else [] := by
          rw [List.take_add_one, hb, List.filter_append]
          show _ ++ List.filter _ [b] = _
          rw [List.filter_cons]
          rfl
        rw [hfil]
        have hfl : ((cs.take i).filter fun c => !(cs.any fun d => !decide (c.2 = d.2) && (M23.runI d.2 0 c.2).isSome)).length ≤ 20 := Nat.le_trans (List.length_filter_le _ _) (by rw [List.length_take]; omega)
        generalize (cs.take i).filter (fun c => !(cs.any fun d => !decide (c.2 = d.2) && (M23.runI d.2 0 c.2).isSome)) = fs at *
        refine ⟨_, rfl, p, rfl, ⟨_, .inl (.inl (s4 _ _ hC))⟩, fun D3 nD3 => ?_⟩
        refine lc_gen (walk_list (xs := rfs cs)) (Same H4) (fun j acc2 => acc2 = (cs.take j).map fun d => V.bl (!(!decide (b.2 = d.2) && (M23.runI d.2 0 b.2).isSome))) (sz (by rw [hcs]; omega)) (fun i acc e => by rw [e, List.length_map, List.length_take]; omega) rfl (same_upd nD3) (fun _ _ h => same_up h nD3) (fun _ h => .inl (.inl (h _ _ (s4 _ _ hC)))) (fun j x H5 H6 acc2 C2 N2 hj r5 hD5 ha2 y2 c2 n2 => ?_) (fun H5 xs r5 hD5 ha2 => ?_)
        · obtain ⟨rfl, yy2⟩ := y2
          rw [show (rfs cs)[j]? = (cs[j]?).map fun b => V.ref b.1 from List.getElem?_map] at yy2
          obtain ⟨d, hd, rfl⟩ := Option.map_eq_some_iff.mp yy2
          have hdm := List.mem_of_getElem? hd
          have hdz := hcz d hdm
          have r6 := s4.trans r5
          have hb6 := r6 _ _ (hcp b hbm)
          have hd6 := r6 _ _ (hcp d hdm)
          have db : Dp K H6 (.ref b.1) (M23.dP b.2) := pd_dp (.inl (.inl hb6))
          have de : Dp K H6 (.ref d.1) (M23.dP d.2) := pd_dp (.inl (.inl hd6))
          have wtz : ∀ x : AP, PdOk sg x.2 ∧ x.2.length ≤ 100 → SeqAt.shaped (M23.dP x.2) = true := fun x h => (wt_dP (fun y hy => (h.1 y hy).tx hl) h.2).shaped (by decide)
          have nxt : ∀ k, k = !(!decide (b.2 = d.2) && (M23.runI d.2 0 b.2).isSome) → ∀ H', Same H6 H' → C2 (.bl k) H' := fun k hk H' sh => c2 _ _ (r5.trans sh) (sh _ _ hD5) (by
            rw [ha2, List.take_add_one, hd, List.map_append, hk]
            rfl)
          refine ⟨rfl, yes_te ?_⟩
          refine ⟨_, rfl, _, rfl, _, _, de, db, wtz d hdz, wtz b hbz, ?_⟩
          rw [eqv_dP]
          refine ⟨_, rfl, ite2 (fun e => ?_) (fun e => ?_)⟩
          · have e' : b.2 = d.2 := (of_decide_eq_true e).symm
            exact nxt true (by rw [decide_eq_true e']; rfl) _ (Same.refl _)
          · have e' : ¬ b.2 = d.2 := fun z => e (decide_eq_true z.symm)
            refine ⟨_, rfl, _, rfl, by show 1 ≤ sizeLine; decide, fun p1 np1 => ?_⟩
            have t1 := same_upd (o := .lst [V.ref b.1]) np1
            have hp1 := upd_same (H := H6) (a := p1) (o := .lst [V.ref b.1])
            generalize upd H6 p1 (.lst [V.ref b.1]) = H7 at *
            refine ⟨_, rfl, by show 1 ≤ sizeLine; decide, fun p2 np2 => ?_⟩
            have t2 := same_upd (o := .lst [V.ref d.1]) np2
            have hp2 := upd_same (H := H7) (a := p2) (o := .lst [V.ref d.1])
            have hp1' := t2 _ _ hp1
            have t12 := t1.trans t2
            generalize upd H7 p2 (.lst [V.ref d.1]) = H8 at *
            refine ⟨by show 2 ≤ sizeLine; decide, fun p3 np3 => ?_⟩
            have t3 := same_upd (o := .lst [V.ref p1, V.ref p2]) np3
            have hp3 := upd_same (H := H8) (a := p3) (o := .lst [V.ref p1, V.ref p2])
            have hp1'' := t3 _ _ hp1'
            have hp2' := t3 _ _ hp2
            have t13 := t12.trans t3
            generalize upd H8 p3 (.lst [V.ref p1, V.ref p2]) = H9 at *
            have asked : ∀ x : AP, PdOk sg x.2 ∧ x.2.length ≤ 100 → Asked [x.2] := fun x h => ⟨by show 1 ≤ 20; decide, fun z hz => by
              rw [List.mem_singleton.mp hz]
              exact ⟨h.2, fun y hy => ⟨(h.1 y hy).ok hl, Nat.le_trans ((h.1 y hy).len hl) (by decide)⟩⟩⟩
            refine ⟨sg, p3, [(p1, [b.2]), (p2, [d.2])], [b.2, d.2], _, _, rfl, hl, .inl (.inl hp3), fun z hz => ?_, rfl, fun zs hzs z hz => ?_, ?_, .inl ⟨rfl, rfl⟩, fun H10 z s10 hres => ?_⟩
            · rcases List.mem_cons.mp hz with rfl | hz
              · exact ⟨⟨[b], .inl (.inl hp1''), rfl, fun x hx => by rw [List.mem_singleton.mp hx]; exact .inl (.inl (t13 _ _ hb6))⟩, asked b hbz⟩
              · rw [List.mem_singleton.mp hz]
                exact ⟨⟨[d], .inl (.inl hp2'), rfl, fun x hx => by rw [List.mem_singleton.mp hx]; exact .inl (.inl (t13 _ _ hd6))⟩, asked d hdz⟩
            · rcases List.mem_cons.mp hzs with rfl | hzs
              · rw [List.mem_singleton.mp hz]; exact List.mem_cons_self
              · rw [List.mem_singleton.mp hzs] at hz
                rw [List.mem_singleton.mp hz]
                exact List.mem_cons_of_mem _ List.mem_cons_self
            · show (b.2.length + 2) * ((d.2.length + 2) * 1) ≤ 2000000
              have h1 := hbz.2
              have h2 := hdz.2
              exact Nat.le_trans (Nat.mul_le_mul (Nat.add_le_add_right h1 2) (Nat.mul_le_mul (Nat.add_le_add_right h2 2) (Nat.le_refl 1))) (by decide)
            · have hby := beyond_iff hl (q := d.2) hbz.1
              refine ⟨rfl, ?_⟩
              rcases hres with ⟨hex, t', rfl⟩ | ⟨hno, rfl⟩
              · have hne := hby.mp hex
                refine nxt _ ?_ _ (t13.trans s10)
                have : (M23.runI d.2 0 b.2).isSome = false := by
                  rw [Bool.eq_false_iff]
                  exact fun z => hne (M23.runI_some.mp z)
                rw [this, Bool.and_false]
                rfl
              · have hem : M23.Emb b.2 d.2 := Classical.byContradiction fun z => by
                  obtain ⟨t, h1, h2⟩ := hby.mpr z
                  have := hno t h1
                  rw [show (List.map Prod.snd [(p1, [b.2]), (p2, [d.2])]) = [[b.2], [d.2]] from rfl] at this
                  rw [h2] at this
                  cases this
                refine nxt _ ?_ _ (t13.trans s10)
                rw [M23.runI_some.mpr hem, decide_eq_false e']
                rfl
        · subst ha2
          rw [hcs, List.take_length] at hD5
          refine ⟨D3, cs.map fun d => !(!decide (b.2 = d.2) && (M23.runI d.2 0 b.2).isSome), rfl, .inl (.inl (by rw [hD5, List.map_map]; rfl)), ?_⟩
          have ee : (cs.map fun d => !(!decide (b.2 = d.2) && (M23.runI d.2 0 b.2).isSome)).all id = !(cs.any fun d => !decide (b.2 = d.2) && (M23.runI d.2 0 b.2).isSome) := by
            rw [List.all_map, List.not_any_eq_all_not]
            rfl
          rw [ee]
          have hF5 := r5 _ _ hF
          refine ⟨_, rfl, ite2 (fun e => ?_) (fun e => ?_)⟩
          · rw [if_pos e]
            refine ⟨_, rfl, .inl ⟨rfl, _, .inl (.inl hF5)⟩, _, rfl, F, _, _, rfl, rfl, hF5, by unfold rfs; rw [List.length_map]; omega, _, rfl, ?_, ?_⟩
            · exact same_up (s4.trans r5) nF
            · rw [upd_same]; unfold rfs; rw [List.map_append]; rfl
          · rw [if_neg e, List.append_nil]
            exact ⟨_, rfl, s4.trans r5, hF5⟩
      · obtain ⟨g3, rfl, s4, hF⟩ := pp
        rw [hcs, List.take_length] at hF
        refine ⟨_, rfl, k H3 F _ (s3.trans s4) hFn hF (fun x hx => .inl (.inl (s4 _ _ (hcp x (List.mem_filter.mp hx).1)))) (filter_kept cs _ hcan)⟩
end
end Lw
namespace Lw
open PySem PySem.Spec PyProof.Rows L3
open L2 hiding del del_same del_ne
theorem op_catAK {X : Cx} {K : PySem.W.Frag} (h : X.K = K) : OpR X (binaryOp .Add) (rCatA K) := h ▸ op_catA
theorem catA_go {K : PySem.W.Frag} {H : Hp} {a b : Addr} {xs ys : List V} {Q : VK} (ha : SqT K H a xs) (hb : SqT K H b ys) (hz : xs.length + ys.length ≤ sizeLine) (q : ∀ H' c, Same H H' → SqT K H' c (xs ++ ys) → Q (.ref c) H') : rCatA K (.ref a) (.ref b) H Q :=
  ⟨a, b, xs, ys, rfl, rfl, ha, hb, hz, fun e => q H b (Same.refl _) (by rw [e]; exact hb), fun _ e => q H a (Same.refl _) (by rw [e, List.append_nil]; exact ha), fun _ _ p np => q _ p (same_upd np) (.inl (.inl upd_same))⟩
theorem slA_go {K : PySem.W.Frag} {H : Hp} {a : Addr} {xs : List V} {lo hi : Option Int} {Q : VK} (ha : SqT K H a xs) (q : ∀ H' c, Same H H' → SqT K H' c (cutV xs lo hi) → Q (.ref c) H') : rSlA K (.ref a) lo hi H Q :=
  ⟨a, xs, rfl, ha, fun e => q H a (Same.refl _) (by unfold cutV; rw [e.1, e.2, List.drop_zero, Nat.sub_zero, List.take_length]; exact ha), fun _ p np => q _ p (same_upd np) (.inl (.inl upd_same))⟩
theorem cutV_to (xs : List V) (i : Nat) : cutV xs none (some (i : Int)) = xs.take i := by
  unfold cutV
  rw [HT.sIx_none, HT.sIx_nat, List.drop_zero, Nat.sub_zero]
  by_cases h : i ≤ xs.length
  · rw [Nat.min_eq_left h]
  · rw [Nat.min_eq_right (by omega), List.take_length, List.take_of_length_le (by omega)]
theorem cutV_from (xs : List V) (i : Nat) : cutV xs (some (i : Int)) none = xs.drop i := by
  unfold cutV
  rw [HT.sIx_none, HT.sIx_nat]
  by_cases h : i ≤ xs.length
  · rw [Nat.min_eq_left h, List.take_of_length_le (by rw [List.length_drop]; omega)]
  · rw [Nat.min_eq_right (by omega), List.drop_of_length_le (Nat.le_refl _), List.drop_of_length_le (by omega), List.take_nil]
/-- what stands at a place between pieces -/
def nb2 (p : M23.Pd) (k : Nat) : M23.Pd := (p.drop (k - 1)).take (min (k + 1) p.length - (k - 1))
theorem nb2_mem {p : M23.Pd} {k : Nat} (hk : k ≤ p.length) {y : M23.Pc} (h : y ∈ nb2 p k) : (∃ u, p.take k = u ++ [y]) ∨ ∃ v, p.drop k = y :: v := by
  unfold nb2 at h
  obtain ⟨i, hi⟩ := List.mem_iff_getElem?.mp h
  have hlt := (List.getElem?_eq_some_iff.mp hi).1
  rw [List.length_take, List.length_drop] at hlt
  rw [List.getElem?_take_of_lt (by omega), List.getElem?_drop] at hi
  have hl2 := (List.getElem?_eq_some_iff.mp hi).1
  by_cases e : k - 1 + i = k
  · rw [e] at hi
    obtain ⟨h1, h2⟩ := List.getElem?_eq_some_iff.mp hi
    exact .inr ⟨p.drop (k + 1), by rw [List.drop_eq_getElem_cons h1, h2]⟩
  · have e2 : k - 1 + i = k - 1 := by omega
    have h0 : 0 < k := by omega
    rw [e2] at hi
    refine .inl ⟨p.take (k - 1), ?_⟩
    rw [show k = k - 1 + 1 by omega, List.take_add_one, hi]
    rw [show k - 1 + 1 - 1 = k - 1 by omega]
    rfl
theorem nb2_sub {p : M23.Pd} {k : Nat} {y : M23.Pc} (h : y ∈ nb2 p k) : y ∈ p := List.mem_of_mem_drop (List.mem_of_mem_take h)
section
variable {P : Program} {w : World} {K : PySem.W.Frag} {mg : Str → Option Value} {base : Heap}
def spTexts : Sp := fun vs H Q _ => ∃ (sg : List Nat) (n : Nat), vs = [tx sg, .int (n : Int)] ∧ Lets sg ∧ n ≤ 4 ∧ ∀ H' p (ts : List (List Nat)), Same H H' → H p = none → H' p = some (.lst (ts.map tx)) → (∀ t ∈ ts, M23.Over sg t ∧ t.length ≤ n) → ts.length ≤ 1000 → Q (.ref p) H'
theorem ok_law_texts (T : All K mg) : FnOk P w K mg base CX0 1 T.f_law_texts T.d_law_texts ["_law_signs_here", "_law_most"] spTexts := by
  refine T.law_texts.F.ok sc_law_texts (fun vs H Q E h => ?_) (fun cdv A outer s H vs Q E hr h => ?_)
  · obtain ⟨sg, n, rfl, _⟩ := h
    rfl
  · obtain ⟨sg, n, rfl, hl, hn, q⟩ := h
    refine ⟨_, pss_cons (ps_par rfl sc_law_texts.nd (i := 2) (j := 3) rfl rfl (by decide) rfl rfl (pa_cons (pe_lst (pa_cons pe_str pa_nil)) (pa_cons (pe_lst (pa_cons pe_str pa_nil)) pa_nil)) (by rfl))
      (pss_cons (ps_for PassesOwn.never rfl (pi_range1 rfl T.b_range (pa_cons (pv 1) pa_nil)) (pg_name (i := 4) sc_law_texts.nd rfl (by first | exact Or.inl rfl | exact Or.inr rfl))
        (pss_cons (ps_set (i := 5) sc_law_texts.nd rfl (by first | exact Or.inl rfl | exact Or.inr rfl) (pe_lst pa_nil))
      (pss_cons (ps_for PassesOwn.never rfl (pi_list (pv 3)) (pg_name (i := 6) sc_law_texts.nd rfl (by first | exact Or.inl rfl | exact Or.inr rfl))
        (pss_one (ps_expr (pe_bm PySem.F.plainAttrs_list PySem.F.slot_list_extend PySem.F.type_list_extend mt_extend (pv 5) (pa_cons (pe_lc (own := [("_law_sign", 7)]) (g := gName 7) (tt := tYes) rfl sc_law_texts.nd (pi_str (pv 0))
          (blkOk_by (own := [("_law_sign", 7)]) (N := ["_law_signs_here", "_law_most", "_law_found", "_law_last", "_law_turn", "_law_longer", "_law_text", "_law_sign"]) (sc := defScope s_law_texts) (by decide +kernel))
          (fun _ _ _ _ _ => pg_name (i := 7) sc_law_texts.nd rfl (by first | exact Or.inl rfl | exact Or.inr rfl)) (fun _ _ _ _ _ => pts_nil)
          (fun _ _ _ _ _ => (pe_op op_addT (pv 6) (pv 7)))) pa_nil)))))
      (pss_one (ps_par rfl sc_law_texts.nd (i := 2) (j := 3) rfl rfl (by decide) rfl rfl (pa_cons (pe_op op_cat (pv 2) (pv 5)) (pa_cons (pv 5) pa_nil)) (by rfl))))))
      (pss_one (ps_ret (pv 2)))), ?_⟩
    dsimp only [cxOf]
    have hsize : sizeLine = 16777216 := sizeLine_eq
    have hsl := hl.few
    refine ⟨by show 1 ≤ sizeLine; decide, fun F nF => ⟨by show 1 ≤ sizeLine; decide, fun L nL => ⟨_, _, rfl, ?_⟩⟩⟩
    have sF := same_upd (o := .lst [V.str (Str.ofString "")]) nF
    have sL := same_upd (o := .lst [V.str (Str.ofString "")]) nL
    have hF := sL _ _ (upd_same (H := H) (a := F) (o := .lst [V.str (Str.ofString "")]))
    have hL := upd_same (H := upd H F (.lst [V.str (Str.ofString "")])) (a := L) (o := .lst [V.str (Str.ofString "")])
    have s1 := sF.trans sL
    have nL0 := sF.free nL
    generalize upd (upd H F (.lst [V.str (Str.ofString "")])) L (.lst [V.str (Str.ofString "")]) = H1 at *
    dsimp only
    refine ⟨_, rfl, _, rfl, by omega, by omega, ?_⟩
    rw [show ((n : Int)).toNat = n by omega]
    refine for_it walk_range (fun i σ H' => ∃ (f l : Addr) (g4 g5 g6 : Option V) (fs ls : List (List Nat)), σ = [some (tx sg), some (.int (n : Int)), some (.ref f), some (.ref l), g4, g5, g6, none] ∧ Same H H' ∧ H f = none ∧ H' f = some (.lst (fs.map tx)) ∧ H' l = some (.lst (ls.map tx)) ∧ (∀ t ∈ fs, M23.Over sg t ∧ t.length ≤ i) ∧ (∀ t ∈ ls, M23.Over sg t ∧ t.length ≤ i) ∧ ls.length ≤ 3 ^ i ∧ fs.length ≤ 3 ^ i * (i + 1))
      ⟨F, L, none, none, none, [[]], [[]], rfl, s1, nF, hF, hL, (fun t ht => by rw [List.mem_singleton.mp ht]; exact ⟨fun c h => by (cases h), Nat.le_refl _⟩), (fun t ht => by rw [List.mem_singleton.mp ht]; exact ⟨fun c h => by (cases h), Nat.le_refl _⟩), Nat.le_refl _, Nat.le_refl _⟩ (fun _ _ _ _ _ => trivial) (fun i x σ H2 H3 hi pp yy => ?_) (fun σ H2 pp => ?_)
    · obtain ⟨f, l, g4, g5, g6, fs, ls, rfl, s2, nf, hf, hls, hfo, hlo, hll, hfl⟩ := pp
      obtain ⟨rfl, rfl⟩ := yy
      have h3i : 3 ^ i ≤ 27 := Nat.le_trans (Nat.pow_le_pow_right (by decide) (show i ≤ 3 by omega)) (by decide)
      have h3 : 3 ^ (i + 1) = 3 ^ i * 3 := Nat.pow_succ ..
      refine ⟨by show 0 ≤ sizeLine; decide, fun G nG => ?_⟩
      have sG := same_upd (o := .lst []) nG
      have hG := upd_same (H := H3) (a := G) (o := .lst [])
      have hf3 := sG _ _ hf
      have hl3 := sG _ _ hls
      have s3 := s2.trans sG
      have nG0 := s2.free nG
      have nfG : f ≠ G := fun z => by rw [z, nG] at hf; cases hf
      have nlG : l ≠ G := fun z => by rw [z, nG] at hls; cases hls
      generalize upd H3 G (.lst []) = H4 at *
      refine ⟨_, rfl, l, rfl, ⟨_, .inl (.inl hl3)⟩, ?_⟩
      have hlm : (ls.map tx).length = ls.length := List.length_map _
      refine for_it (walk_list (xs := ls.map tx)) (fun j σ H' => ∃ (g6 : Option V) (gs : List (List Nat)), σ = [some (tx sg), some (.int (n : Int)), some (.ref f), some (.ref l), some (.int (0 + (i : Int))), some (.ref G), g6, none] ∧ Same H H' ∧ H' f = some (.lst (fs.map tx)) ∧ H' l = some (.lst (ls.map tx)) ∧ H' G = some (.lst (gs.map tx)) ∧ (∀ t ∈ gs, M23.Over sg t ∧ t.length ≤ i + 1) ∧ gs.length ≤ 3 * j)
        ⟨g6, [], rfl, s3, hf3, hl3, hG, (fun t h => by cases h), Nat.zero_le _⟩ (fun j σ H' _ pp => by obtain ⟨_, _, _, _, _, h, _⟩ := pp; exact .inl (.inl h)) (fun j x σ H5 H6 hj pp yy => ?_) (fun σ H5 pp => ?_)
      · obtain ⟨g6, gs, rfl, s5, hf5, hl5, hG5, hgo, hgl⟩ := pp
        obtain ⟨rfl, yy⟩ := yy
        rw [List.getElem?_map] at yy
        obtain ⟨t, ht, rfl⟩ := Option.map_eq_some_iff.mp yy
        obtain ⟨hto, htl⟩ := hlo t (List.mem_of_getElem? ht)
        refine ⟨_, rfl, .inl ⟨rfl, _, .inl (.inl hG5)⟩, _, rfl, tS sg, rfl, fun D nD => ?_⟩
        refine lc_gen walk_tx (Same H6) (fun m acc => acc = (sg.take m).map fun c => tx (t ++ [c])) (sz (by omega)) (fun m acc e => by rw [e, List.length_map, List.length_take]; omega) rfl (same_upd nD) (fun _ _ h => same_up h nD) (fun _ _ => trivial) (fun m u H7 H8 acc C N hm r hD ha yy2 cc nn => ?_) (fun H7 xs r hD ha => ?_)
        · obtain ⟨rfl, ch, hc, rfl⟩ := yy2
          refine ⟨rfl, yes_te ⟨_, rfl, _, rfl, t, [ch], rfl, rfl, by show t.length + 1 ≤ sizeLine; omega, cc _ _ r hD ?_⟩⟩
          rw [ha, List.take_add_one, hc, List.map_append]
          rfl
        · subst ha
          rw [List.take_length] at hD
          have hjl : j < ls.length := by rw [hlm] at hj; exact hj
          have ndf : f ≠ D := fun z => by rw [z, nD] at hf5; cases hf5
          refine ⟨G, D, _, _, rfl, rfl, r _ _ hG5, hD, by rw [List.length_map, List.length_map]; omega, ?_⟩
          refine ⟨_, gs ++ sg.map fun c => t ++ [c], rfl, same_up (s5.trans r) nG0, by rw [upd_ne nfG]; exact r _ _ hf5, by rw [upd_ne nlG]; exact r _ _ hl5, by rw [upd_same, List.map_append, List.map_map]; rfl, fun z hz => ?_, ?_⟩
          · rcases List.mem_append.mp hz with hz | hz
            · exact hgo z hz
            · obtain ⟨c, hc, rfl⟩ := List.mem_map.mp hz
              refine ⟨fun d hd => ?_, by rw [List.length_append, List.length_singleton]; omega⟩
              rcases List.mem_append.mp hd with hd | hd
              · exact hto d hd
              · rw [List.mem_singleton.mp hd]; exact hc
          · rw [List.length_append, List.length_map]
            omega
      · obtain ⟨g6, gs, rfl, s5, hf5, hl5, hG5, hgo, hgl⟩ := pp
        rw [hlm] at hgl
        have hfl2 : fs.length ≤ 27 * 4 := Nat.le_trans hfl (Nat.mul_le_mul h3i (by omega))
        refine ⟨_, rfl, _, rfl, f, G, _, _, rfl, rfl, hf5, hG5, by rw [List.length_map, List.length_map]; omega, fun f2 nf2 => ⟨_, rfl, _, _, rfl, ?_⟩⟩
        have sf2 := same_upd (o := .lst (fs.map tx ++ gs.map tx)) nf2
        refine ⟨f2, G, _, _, _, fs ++ gs, gs, rfl, s5.trans sf2, s5.free nf2, by rw [upd_same, List.map_append], sf2 _ _ hG5, fun z hz => ?_, hgo, by omega, ?_⟩
        · rcases List.mem_append.mp hz with hz | hz
          · exact ⟨(hfo z hz).1, Nat.le_succ_of_le (hfo z hz).2⟩
          · exact hgo z hz
        · rw [List.length_append, h3]
          have e1 : 3 ^ i * 3 * (i + 1 + 1) = 3 ^ i * (i + 1) * 3 + 3 ^ i * 3 := by
            rw [Nat.mul_add, Nat.mul_one, Nat.mul_assoc, Nat.mul_comm 3 (i + 1), ← Nat.mul_assoc]
          rw [e1]
          omega
    · obtain ⟨f, l, g4, g5, g6, fs, ls, rfl, s2, nf, hf, hls, hfo, hlo, hll, hfl⟩ := pp
      refine ⟨_, rfl, q H2 f fs s2 nf hf hfo ?_⟩
      have h3 : 3 ^ n ≤ 81 := Nat.le_trans (Nat.pow_le_pow_right (by decide) hn) (by decide)
      exact Nat.le_trans hfl (Nat.le_trans (Nat.mul_le_mul h3 (show n + 1 ≤ 5 by omega)) (by decide))
def spPadded (K : PySem.W.Frag) : Sp := fun vs H Q _ => ∃ (a b : Addr) (sg : List Nat) (p : M23.Pd), vs = [.ref a, .ref b] ∧ Pot H a ∧ Lets sg ∧ PdOk sg p ∧ p.length ≤ 20 ∧ SqT K H b (p.map tx) ∧ ∀ (H' : Hp) (c : Addr) (p' : M23.Pd), PdOk sg p' → M23.Eqv p p' → p'.length ≤ p.length + 1 → Pot H' a → Off a H H' → SqT K H' c (p'.map tx) → Q (.ref c) H'
theorem ok_law_padded (T : All K mg) : FnOk P w K mg base CX0 3 T.f_law_padded T.d_law_padded ["_law_pot_here", "_law_bundle_here"] (spPadded K) := by
  refine T.law_padded.F.ok sc_law_padded (fun vs H Q E h => ?_) (fun cdv A outer s H vs Q E hr h => ?_)
  · obtain ⟨a, b, sg, p, rfl, _⟩ := h
    rfl
  · obtain ⟨a, b, sg, p, rfl, hp, hl, hok, hz, hS, q⟩ := h
    refine ⟨_, pss_cons (ps_set (i := 2) sc_law_padded.nd rfl (by first | exact Or.inl rfl | exact Or.inr rfl) (pe_call (ok_law_draw T) (hr.mono (by decide)) (by rfl) T.law_draw.g T.law_draw.F.kp T.law_draw.b .nil pass0 (pa_cons (pv 0) (pa_cons (pe_op op_add (pe_callB call_len_seq (by rfl) T.b_len PySem.boot_len (pa_cons (pv 1) pa_nil)) pe_int) pa_nil))))
      (pss_cons (ps_for PassesOwn.never rfl (pi_tup (pe_slice sl_tupA (pv 1) (po_some (pe_callB (call_max2 rfl) (by rfl) T.b_max PyProof.Rows.boot_max (pa_cons pe_int (pa_cons (pe_op op_sub (pv 2) pe_int) pa_nil)))) (po_some (pe_op op_add (pv 2) pe_int)))) (pg_name (i := 3) sc_law_padded.nd rfl (by first | exact Or.inl rfl | exact Or.inr rfl))
        (pss_one (ps_if (pt_cmpR op_gt (pe_callB call_lenT (by rfl) T.b_len PySem.boot_len (pa_cons (pv 3) pa_nil)) pe_int (nomark _)) (pss_cons (ps_set (i := 4) sc_law_padded.nd rfl (by first | exact Or.inl rfl | exact Or.inr rfl) (pe_slice sl_txN (pv 3) po_none (po_some (pe_un un_neg pe_int))))
      (pss_cons (ps_set (i := 5) sc_law_padded.nd rfl (by first | exact Or.inl rfl | exact Or.inr rfl) (pe_call (ok_law_pick T) (hr.mono (by decide)) (by rfl) T.law_pick.g T.law_pick.F.kp T.law_pick.b .nil pass0 (pa_cons (pv 0) (pa_cons (pe_lst (pa_cons (pe_call (ok_law_pick T) (hr.mono (by decide)) (by rfl) T.law_pick.g T.law_pick.F.kp T.law_pick.b .nil pass0 (pa_cons (pv 0) (pa_cons (pv 4) pa_nil))) (pa_cons (pe_op op_addT (pe_call (ok_law_pick T) (hr.mono (by decide)) (by rfl) T.law_pick.g T.law_pick.F.kp T.law_pick.b .nil pass0 (pa_cons (pv 0) (pa_cons (pv 4) pa_nil))) pe_str) (pa_cons (pv 3) pa_nil)))) pa_nil))))
      (pss_one (ps_ret (pe_op (op_catAK (K := K) rfl) (pe_op (op_catAK (K := K) rfl) (pe_slice sl_tupA (pv 1) po_none (po_some (pv 2))) (pe_tup (pa_cons (pv 5) pa_nil))) (pe_slice sl_tupA (pv 1) (po_some (pv 2)) po_none)))))) pss_nil)))
      (pss_one (ps_ret (pv 1)))), ?_⟩
    dsimp only [cxOf]
    have hsize : sizeLine = 16777216 := sizeLine_eq
    have hpl : (p.map tx).length = p.length := List.length_map _
    refine ⟨_, rfl, _, rfl, b, _, rfl, .inr hS, _, _, rfl, rfl, a, p.length + 1, by rw [hpl]; push_cast; rfl, hp, by omega, by omega, fun H1 d hd hp1 ho1 => ?_⟩
    have hba : b ≠ a ∨ True := .inr trivial
    have hS1 : SqT K H1 b (p.map tx) := by
      obtain ⟨x0, y0, ea, _⟩ := hp
      rcases hS with (hS | ⟨o, hS⟩) | hS
      · exact .inl (.inl (ho1 _ _ hS (ne_of hS ea fun z => by cases z)))
      · exact .inl (.inr ⟨o, ho1 _ _ hS (ne_of hS ea fun z => by cases z)⟩)
      · exact .inr hS
    have hdl : d ≤ p.length := by omega
    have hmx : (if ((d : Nat) : Int) - 1 > 0 then ((d : Nat) : Int) - 1 else 0) = ((d - 1 : Nat) : Int) := by split <;> omega
    have c1 : cutV (p.map tx) (some (if ((d : Nat) : Int) - 1 > 0 then ((d : Nat) : Int) - 1 else 0)) (some (((d : Nat) : Int) + 1)) = (nb2 p d).map tx := by
      rw [hmx, show ((d : Nat) : Int) + 1 = ((d + 1 : Nat) : Int) by omega, cutV_nn, hpl]
      unfold nb2
      rw [List.map_take, List.map_drop, show min (d - 1) p.length = d - 1 by omega]
    refine ⟨_, rfl, _, rfl, _, _, rfl, rfl, _, _, rfl, _, rfl, _, rfl, _, _, rfl, rfl, _, rfl, ?_⟩
    refine slA_go hS1 fun H2 c s2 hc => ?_
    rw [c1] at hc
    have hp2 := hp1.same s2
    have ho2 := ho1.trans (Off.of s2 (a := a))
    have hS2 := sqT_same hS1 s2
    refine ⟨c, rfl, ⟨_, hc⟩, ?_⟩
    refine for_it (walk_tup (xs := (nb2 p d).map tx)) (fun j σ H' => ∃ g3, σ = [some (.ref a), some (.ref b), some (.int (d : Int)), g3, none, none] ∧ H' = H2) ⟨none, rfl, rfl⟩ (fun j σ H' _ pp => by obtain ⟨_, _, h⟩ := pp; rw [h]; exact hc) (fun j x' σ H6 H7 hj pp yy => ?_) (fun σ H6 pp => ?_)
    · obtain ⟨g3, rfl, rfl⟩ := pp
      obtain ⟨rfl, yy⟩ := yy
      rw [List.getElem?_map] at yy
      obtain ⟨y, hy, rfl⟩ := Option.map_eq_some_iff.mp yy
      have hym := List.mem_of_getElem? hy
      have hyp := hok y (nb2_sub hym)
      have hyz := hyp.len hl
      refine ⟨_, rfl, y, rfl, by omega, _, _, rfl, rfl, _, rfl, ?_⟩
      have el : decide ((1 : Int) < (y.length : Int)) = M23.isS y := ok_long (hyp.ok hl)
      rw [el]
      refine ite2 (fun e => ?_) (fun e => ⟨_, rfl, rfl⟩)
      obtain ⟨lt, hl1, hl2, hl3, hye⟩ : ∃ l : List Nat, l ≠ [] ∧ l.Pairwise (· < ·) ∧ (∀ c ∈ l, c ∈ sg) ∧ y = l ++ [42] := by
        rcases hyp with ⟨c', hc', rfl⟩ | h
        · have : c' ≠ 42 := fun e => hl.no (e ▸ hc')
          rw [M23.isS_one this] at e
          cases e
        · exact h
      have hdrop : y.dropLast = lt := by rw [hye]; simp
      have hlt : M23.lt y = lt := by rw [hye, M23.lt_star]
      have hltl : lt.length ≤ 10 := by have : y.length = lt.length + 1 := by rw [hye]; simp
                                       omega
      refine ⟨_, rfl, 1, rfl, _, rfl, y, rfl, by omega, .inl ⟨rfl, rfl, ?_⟩⟩
      rw [hdrop]
      have hold : ∀ c ∈ lt, c ≠ 42 → M23.holds y [c] = true := fun c hc h42 => (M23.holds_star e).mpr fun z hz => by
        rw [M23.lt_one h42] at hz
        rw [List.mem_singleton.mp hz, hlt]
        exact hc
      have h42 : ∀ c ∈ lt, c ≠ 42 := fun c hc e => hl.no (e ▸ hl3 c hc)
      refine ⟨_, rfl, _, rfl, _, rfl, a, tx lt, rfl, hp2, .inl ⟨lt, rfl, hl1, by omega, fun H8 c1' hc1 hp8 ho8 => ?_⟩⟩
      refine ⟨_, rfl, _, rfl, a, tx lt, rfl, hp8, .inl ⟨lt, rfl, hl1, by omega, fun H9 c2' hc2 hp9 ho9 => ?_⟩⟩
      refine ⟨[c2'], [42], rfl, rfl, by show 1 + 1 ≤ sizeLine; decide, _, rfl, ?_⟩
      refine ⟨by show 3 ≤ sizeLine; decide, fun pl npl => ?_⟩
      have napl := hp9.ne npl
      have sp := same_upd (o := .lst [tx [c1'], tx ([c2'] ++ [42]), tx (lt ++ [42])]) npl
      have o79 := (ho8.trans ho9).trans (Off.of sp (a := a))
      refine ⟨a, .ref pl, rfl, hp9.up napl, .inr ⟨pl, [tx [c1'], tx ([c2'] ++ [42]), tx y], rfl, napl.symm, .inl (.inl upd_same), by simp, by show 3 ≤ 1000; decide, fun H10 v hv hp10 ho10 => ?_⟩⟩
      have key : ∃ x, v = tx x ∧ PcOk sg x ∧ M23.holds y x = true := by
        rcases List.mem_cons.mp hv with rfl | hv
        · exact ⟨[c1'], rfl, .inl ⟨c1', hl3 _ hc1, rfl⟩, hold _ hc1 (h42 _ hc1)⟩
        rcases List.mem_cons.mp hv with rfl | hv
        · refine ⟨[c2'] ++ [42], rfl, .inr ⟨[c2'], by simp, by simp, fun d hd => by rw [List.mem_singleton.mp hd]; exact hl3 _ hc2, rfl⟩, (M23.holds_star e).mpr fun z hz => ?_⟩
          rw [M23.lt_star] at hz
          rw [List.mem_singleton.mp hz, hlt]
          exact hc2
        · rw [List.mem_singleton.mp hv]
          exact ⟨y, rfl, hyp, M23.holds_self y⟩
      obtain ⟨x, rfl, hx1, hx2⟩ := key
      have o710 : Off a H7 H10 := ((ho8.trans ho9).trans (Off.of (same_upd npl) (a := a))).trans ho10
      have offT : ∀ {H' : Hp} {c : Addr} {xs : List V}, Off a H7 H' → SqT K H7 c xs → SqT K H' c xs := fun {H' c xs} o h => by
        obtain ⟨x0, y0, ea, _⟩ := hp2
        rcases h with (h | ⟨o', h⟩) | h
        · exact .inl (.inl (o _ _ h (ne_of h ea fun z => by cases z)))
        · exact .inl (.inr ⟨o', o _ _ h (ne_of h ea fun z => by cases z)⟩)
        · exact .inr h
      have hS10 := offT o710 hS2
      clear hv c1 hold h42 sp o79
      dsimp only [gName]
      refine ⟨_, rfl, _, rfl, _, rfl, ?_⟩
      refine slA_go hS10 fun H11 e1 s11 he1 => ?_
      rw [cutV_to] at he1
      refine ⟨_, rfl, by show 1 ≤ sizeLine; decide, fun e2 ne2 => ?_⟩
      have t2 := same_upd (o := .tup [tx x]) ne2
      have he2 : SqT K (upd H11 e2 (.tup [tx x])) e2 [tx x] := .inl (.inl upd_same)
      refine catA_go (sqT_same he1 t2) he2 (by rw [List.length_take, hpl]; show _ + 1 ≤ _; omega) fun H12 e3 s12 he3 => ?_
      have s1012 := s11.trans (t2.trans s12)
      refine ⟨_, rfl, _, rfl, _, rfl, ?_⟩
      unfold tNoPart
      dsimp only
      refine slA_go (sqT_same hS10 s1012) fun H13 e4 s13 he4 => ?_
      rw [cutV_from] at he4
      refine catA_go (sqT_same he3 s13) he4 (by rw [List.length_append, List.length_take, List.length_drop, hpl]; show _ + 1 + _ ≤ _; omega) fun H14 e5 s14 he5 => ?_
      have s1014 := s1012.trans (s13.trans s14)
      have hm : (p.map tx).take d ++ [tx x] ++ (p.map tx).drop d = (p.take d ++ x :: p.drop d).map tx := by
        rw [List.map_append, List.map_cons, List.map_take, List.map_drop, List.append_assoc]
        rfl
      rw [hm] at he5
      refine q H14 e5 _ ?_ ?_ ?_ (hp10.same s1014) ((ho2.trans o710).trans (Off.of s1014)) he5
      · intro z hz
        rcases List.mem_append.mp hz with hz | hz
        · exact hok z (List.mem_of_mem_take hz)
        · rcases List.mem_cons.mp hz with rfl | hz
          · exact hx1
          · exact hok z (List.mem_of_mem_drop hz)
      · have h1 := M23.leave_eqv (u := p.take d) (v := p.drop d) (x := x) (by
          rcases nb2_mem hdl hym with ⟨u, hu⟩ | ⟨v, hv⟩
          · exact .inl ⟨u, y, hu, e, hx2⟩
          · exact .inr ⟨y, v, hv, e, hx2⟩)
        rw [List.take_append_drop] at h1
        exact h1.symm
      · rw [List.length_append, List.length_cons, List.length_take, List.length_drop]
        omega
    · obtain ⟨g3, rfl, rfl⟩ := pp
      exact ⟨_, rfl, q _ b p hok (.refl p) (Nat.le_succ _) hp2 ho2 hS2⟩
end
end Lw
namespace Lw
open PySem PySem.Spec PyProof.Rows L3
open L2 hiding del del_same del_ne
theorem glue_fold (g : Str) (hg : g.cps = #[]) : ∀ (ls : List (List Nat)) (acc : Array Nat), (ls.map tS).foldl (fun acc p => acc ++ g.cps ++ p.cps) acc = acc ++ ls.flatten.toArray
  | [], acc => by simp
  | l :: ls, acc => by
    rw [List.map_cons, List.foldl_cons, glue_fold g hg ls, hg]
    simp
theorem join_tx (ls : List (List Nat)) : Txt.join ("" : Str) (ls.map tS) = tS ls.flatten := by
  show (⟨((ls.map tS).drop 1).foldl (fun acc p => acc ++ ("" : Str).cps ++ p.cps) ((ls.map tS).headD Str.empty).cps⟩ : Str) = _
  have hg : ("" : Str).cps = #[] := by decide +kernel
  cases ls with
  | nil => rfl
  | cons l ls =>
    show (⟨(ls.map tS).foldl (fun acc p => acc ++ ("" : Str).cps ++ p.cps) l.toArray⟩ : Str) = _
    rw [glue_fold _ hg]
    simp
theorem sum_one : ∀ cs : List Nat, ((cs.map fun c => tS [c]).map (·.length)).sum = cs.length
  | [] => rfl
  | c :: cs => by
    rw [List.map_cons, List.map_cons, List.sum_cons, sum_one cs, List.length_cons, tS_len]
    show 1 + cs.length = _
    omega
theorem flat_one : ∀ cs : List Nat, (cs.map fun c => [c]).flatten = cs
  | [] => rfl
  | c :: cs => by rw [List.map_cons, List.flatten_cons, flat_one cs]; rfl
section
variable {P : Program} {w : World} {K : PySem.W.Frag} {mg : Str → Option Value} {base : Heap}
def spPiece : Sp := fun vs H Q _ => ∃ (a : Addr) (sg : List Nat), vs = [.ref a, tx sg] ∧ Pot H a ∧ Lets sg ∧ ∀ (H' : Hp) (x : List Nat), PcOk sg x → Pot H' a → Off a H H' → Q (tx x) H'
theorem ok_law_piece (T : All K mg) : FnOk P w K mg base CX0 3 T.f_law_piece T.d_law_piece ["_law_pot_here", "_law_signs_here"] spPiece := by
  refine T.law_piece.F.ok sc_law_piece (fun vs H Q E h => ?_) (fun cdv A outer s H vs Q E hr h => ?_)
  · obtain ⟨a, sg, rfl, _⟩ := h
    rfl
  · obtain ⟨a, sg, rfl, hp, hl, q⟩ := h
    refine ⟨_, pss_cons (ps_if (pt_cmpR op_eq (pe_call (ok_law_draw T) (hr.mono (by decide)) (by rfl) T.law_draw.g T.law_draw.F.kp T.law_draw.b .nil pass0 (pa_cons (pv 0) (pa_cons pe_int pa_nil))) pe_int (nomark _)) (pss_one (ps_ret (pe_call (ok_law_pick T) (hr.mono (by decide)) (by rfl) T.law_pick.g T.law_pick.F.kp T.law_pick.b .nil pass0 (pa_cons (pv 0) (pa_cons (pv 1) pa_nil))))) pss_nil)
      (pss_cons (ps_set (i := 2) sc_law_piece.nd rfl (by first | exact Or.inl rfl | exact Or.inr rfl) (pe_join pe_str (pe_lc (own := [("_law_sign", 3)]) (g := gName 3) rfl sc_law_piece.nd (pi_str (pv 1))
          (blkOk_by (own := [("_law_sign", 3)]) (N := ["_law_pot_here", "_law_signs_here", "_law_some_here", "_law_sign"]) (sc := defScope s_law_piece) (by decide +kernel))
          (fun _ _ _ _ _ => pg_name (i := 3) sc_law_piece.nd rfl (by first | exact Or.inl rfl | exact Or.inr rfl)) (fun _ _ _ _ _ => (pts_one (pt_cmpR op_eq (pe_call (ok_law_draw T) (hr.mono (by decide)) (by rfl) T.law_draw.g T.law_draw.F.kp T.law_draw.b .nil pass0 (pa_cons (pv 0) (pa_cons pe_int pa_nil))) pe_int (nomark _))))
          (fun _ _ _ _ _ => (pv 3)))))
      (pss_one (ps_ret (pe_op op_addT (pe_ifExp (pt_cmpR op_ne (pv 2) pe_str (nomark _)) (pv 2) (pe_call (ok_law_pick T) (hr.mono (by decide)) (by rfl) T.law_pick.g T.law_pick.F.kp T.law_pick.b .nil pass0 (pa_cons (pv 0) (pa_cons (pv 1) pa_nil)))) pe_str)))), ?_⟩
    dsimp only [cxOf]
    have hne : sg ≠ [] := fun e => by have := hl.ne; rw [e] at this; simp at this
    have hsl := hl.few
    refine ⟨_, rfl, a, 2, rfl, hp, by decide, by decide, fun H1 d hd hp1 ho1 => ⟨rfl, _, rfl, ite2 (fun e => ?_) (fun e => ?_)⟩⟩
    · exact ⟨_, rfl, _, rfl, a, tx sg, rfl, hp1, .inl ⟨sg, rfl, hne, by omega, fun H2 c hc hp2 ho2 => q _ _ (.inl ⟨c, hc, rfl⟩) hp2 (ho1.trans ho2)⟩⟩
    · dsimp only [tNext]
      refine ⟨⟨_, rfl⟩, _, rfl, tS sg, rfl, fun D nD => ?_⟩
      have naD := hp1.ne nD
      refine lc_it walk_tx (fun i H' => Pot H' a ∧ Off a H1 H' ∧ ∃ l : List Nat, H' D = some (.lst (l.map fun c => tx [c])) ∧ l.Sublist (sg.take i)) ⟨hp1.up naD, (Off.refl a H1).up nD, [], upd_same, List.Sublist.refl _⟩ (fun _ _ _ _ => trivial) (fun i x H2 H3 hi pp yy => ?_) (fun H2 pp => ?_)
      · obtain ⟨hp2, ho2, l, hD, hsub⟩ := pp
        obtain ⟨rfl, c, hc, rfl⟩ := yy
        have hll : l.length ≤ i := Nat.le_trans hsub.length_le (by rw [List.length_take]; omega)
        refine ⟨rfl, ⟨_, rfl, a, 2, rfl, hp2, by decide, by decide, fun H4 d2 hd2 hp4 ho4 => ⟨rfl, _, rfl, ite2 (fun e2 => ?_) (fun e2 => ?_)⟩⟩⟩
        · have hD4 := ho4 _ _ hD naD.symm
          refine ⟨_, rfl, _, hD4, by rw [List.length_map]; exact Nat.lt_of_lt_of_le (by omega : l.length < 100) (sz (by decide)), hp4.up naD, (ho2.trans ho4).up nD, l ++ [c], ?_, ?_⟩
          · rw [upd_same, List.map_append]; rfl
          · rw [List.take_add_one, hc]
            exact hsub.append (List.Sublist.refl _)
        · exact ⟨hp4, ho2.trans ho4, l, ho4 _ _ hD naD.symm, hsub.trans (by rw [List.take_add_one]; exact List.sublist_append_left _ _)⟩
      · obtain ⟨hp2, ho2, l, hD, hsub⟩ := pp
        rw [List.take_length] at hsub
        have hll := hsub.length_le
        refine ⟨_, D, l.map fun c => tS [c], rfl, rfl, .inl (.inl (.inl (by rw [hD, List.map_map]; rfl))), by rw [sum_one, show (Str.ofString "").length = 0 from rfl]; omega, ?_⟩
        have ej : Txt.join (Str.ofString "") (l.map fun c => tS [c]) = tS l := by
          have := join_tx (l.map fun c => [c])
          rw [flat_one, List.map_map] at this
          exact this
        rw [ej]
        refine ⟨_, rfl, rfl, _, rfl, ite2 (fun e2 => ?_) (fun e2 => ?_)⟩
        · have hln : l ≠ [] := fun z => by subst z; revert e2; decide
          refine ⟨_, rfl, l, [42], rfl, rfl, by have : sizeLine = 16777216 := sizeLine_eq; simp; omega, ?_⟩
          exact q _ _ (.inr ⟨l, hln, hl.up.sublist hsub, fun c hc => hsub.subset hc, rfl⟩) hp2 (ho1.trans ho2)
        · refine ⟨_, rfl, _, rfl, a, tx sg, rfl, hp2, .inl ⟨sg, rfl, hne, by omega, fun H3 c hc hp3 ho3 => ?_⟩⟩
          refine ⟨[c], [42], rfl, rfl, by show 1 + 1 ≤ sizeLine; decide, ?_⟩
          exact q _ _ (.inr ⟨[c], by simp, by simp, fun d hd => by rw [List.mem_singleton.mp hd]; exact hc, rfl⟩) hp3 (ho1.trans (ho2.trans ho3))
def spBundle : Sp := fun vs H Q _ => ∃ (a : Addr) (sg : List Nat) (n : Nat), vs = [.ref a, tx sg, .int (n : Int)] ∧ Pot H a ∧ Lets sg ∧ n ≤ 10 ∧ ∀ (H' : Hp) (b : Addr) (p : M23.Pd), PdOk sg p → p.length ≤ n → Pot H' a → Off a H H' → H b = none → H' b = some (.tup (p.map tx)) → Q (.ref b) H'
theorem ok_law_bundle (T : All K mg) : FnOk P w K mg base CX0 4 T.f_law_bundle T.d_law_bundle ["_law_pot_here", "_law_signs_here", "_law_most"] spBundle := by
  refine T.law_bundle.F.ok sc_law_bundle (fun vs H Q E h => ?_) (fun cdv A outer s H vs Q E hr h => ?_)
  · obtain ⟨a, sg, n, rfl, _⟩ := h
    rfl
  · obtain ⟨a, sg, n, rfl, hp, hl, hn, q⟩ := h
    refine ⟨_, pss_one (ps_ret (pe_callTy call_tuple_of (by rfl) T.b_tuple (show bootBuiltins "tuple" = some (.type "tuple") by decide +kernel) (pa_cons (pe_lc (own := [("_law_turn", 3)]) (g := gName 3) (tt := tYes) rfl sc_law_bundle.nd (pi_range1 rfl T.b_range (pa_cons (pe_call (ok_law_draw T) (hr.mono (by decide)) (by rfl) T.law_draw.g T.law_draw.F.kp T.law_draw.b .nil pass0 (pa_cons (pv 0) (pa_cons (pe_op op_add (pv 2) pe_int) pa_nil))) pa_nil))
          (blkOk_by (own := [("_law_turn", 3)]) (N := ["_law_pot_here", "_law_signs_here", "_law_most", "_law_turn"]) (sc := defScope s_law_bundle) (by decide +kernel))
          (fun _ _ _ _ _ => pg_name (i := 3) sc_law_bundle.nd rfl (by first | exact Or.inl rfl | exact Or.inr rfl)) (fun _ _ _ _ _ => pts_nil)
          (fun _ _ _ _ _ => (pe_call (ok_law_piece T) (hr.mono (by decide)) (by rfl) T.law_piece.g T.law_piece.F.kp T.law_piece.b .nil pass0 (pa_cons (pv 0) (pa_cons (pv 1) pa_nil))))) pa_nil))), ?_⟩
    dsimp only [cxOf]
    refine ⟨_, rfl, _, rfl, _, _, rfl, rfl, a, n + 1, by push_cast; rfl, hp, by omega, by omega, fun H1 d hd hp1 ho1 => ?_⟩
    refine ⟨_, rfl, by omega, by omega, ?_⟩
    rw [show ((d : Int)).toNat = d by omega]
    intro D nD
    have naD := hp1.ne nD
    refine lc_it walk_range (fun i H' => Pot H' a ∧ Off a H1 H' ∧ ∃ p : M23.Pd, PdOk sg p ∧ p.length = i ∧ H' D = some (.lst (p.map tx))) ⟨hp1.up naD, (Off.refl a H1).up nD, [], (fun x h => by cases h), rfl, upd_same⟩ (fun _ _ _ _ => trivial) (fun i x H2 H3 hi pp yy => ?_) (fun H2 pp => ?_)
    · obtain ⟨hp2, ho2, p, hpk, hpl, hD⟩ := pp
      obtain ⟨rfl, rfl⟩ := yy
      refine ⟨rfl, yes_te ⟨_, rfl, _, rfl, a, sg, rfl, hp2, hl, fun H4 x hx hp4 ho4 => ?_⟩⟩
      have hD4 := ho4 _ _ hD naD.symm
      refine ⟨_, hD4, by rw [List.length_map]; exact Nat.lt_of_lt_of_le (by omega : p.length < 100) (sz (by decide)), hp4.up naD, (ho2.trans ho4).up nD, p ++ [x], ?_, by rw [List.length_append, hpl]; rfl, ?_⟩
      · intro y hy
        rcases List.mem_append.mp hy with hy | hy
        · exact hpk y hy
        · rw [List.mem_singleton.mp hy]; exact hx
      · rw [upd_same, List.map_append]; rfl
    · obtain ⟨hp2, ho2, p, hpk, hpl, hD⟩ := pp
      refine ⟨D, p.map tx, rfl, .inl ⟨.inl (.inl hD), fun b nb => ?_⟩⟩
      have nab := hp2.ne nb
      exact q _ b p hpk (by omega) (hp2.up nab) ((ho1.trans ho2).up ((ho1.trans ho2).free nb hp2)) ((ho1.trans ho2).free nb hp2) upd_same
def spSigns : Sp := fun vs H Q _ => ∃ (a : Addr), vs = [.ref a] ∧ Pot H a ∧ ∀ (H' : Hp) (sg : List Nat), Lets sg → 121 ∉ sg → Pot H' a → Off a H H' → Q (tx sg) H'
theorem ok_law_signs (T : All K mg) : FnOk P w K mg base CX0 3 T.f_law_signs T.d_law_signs ["_law_pot_here"] spSigns := by
  refine T.law_signs.F.ok sc_law_signs (fun vs H Q E h => ?_) (fun cdv A outer s H vs Q E hr h => ?_)
  · obtain ⟨a, rfl, _⟩ := h
    rfl
  · obtain ⟨a, rfl, hp, q⟩ := h
    refine ⟨_, pss_one (ps_ret (pe_call (ok_law_pick T) (hr.mono (by decide)) (by rfl) T.law_pick.g T.law_pick.F.kp T.law_pick.b .nil pass0 (pa_cons (pv 0) (pa_cons (pe_lst (pa_cons pe_str (pa_cons pe_str (pa_cons pe_str (pa_cons pe_str (pa_cons pe_str (pa_cons pe_str (pa_cons pe_str (pa_cons pe_str pa_nil))))))))) pa_nil)))), ?_⟩
    refine ⟨_, rfl, by show 8 ≤ sizeLine; decide, fun L nL => ?_⟩
    have naL := hp.ne nL
    refine ⟨a, .ref L, rfl, hp.up naL, .inr ⟨L, _, rfl, naL.symm, .inl (.inl upd_same), by simp, by show 8 ≤ 1000; decide, fun H' v hv hp' ho' => ?_⟩⟩
    have key : ∃ sg, v = tx sg ∧ Lets sg ∧ 121 ∉ sg := by
      rcases List.mem_cons.mp hv with rfl | hv
      · exact ⟨[97], rfl, ⟨by decide, by decide, by decide, by decide⟩, by decide⟩
      rcases List.mem_cons.mp hv with rfl | hv
      · exact ⟨[97, 98], rfl, ⟨by decide, by decide, by decide, by decide⟩, by decide⟩
      rcases List.mem_cons.mp hv with rfl | hv
      · exact ⟨[97, 98], rfl, ⟨by decide, by decide, by decide, by decide⟩, by decide⟩
      rcases List.mem_cons.mp hv with rfl | hv
      · exact ⟨[97, 98], rfl, ⟨by decide, by decide, by decide, by decide⟩, by decide⟩
      rcases List.mem_cons.mp hv with rfl | hv
      · exact ⟨[97, 98, 99], rfl, ⟨by decide, by decide, by decide, by decide⟩, by decide⟩
      rcases List.mem_cons.mp hv with rfl | hv
      · exact ⟨[97, 98, 99], rfl, ⟨by decide, by decide, by decide, by decide⟩, by decide⟩
      rcases List.mem_cons.mp hv with rfl | hv
      · exact ⟨[120, 122], rfl, ⟨by decide, by decide, by decide, by decide⟩, by decide⟩
      rw [List.mem_singleton.mp hv]
      exact ⟨[98, 99, 100], rfl, ⟨by decide, by decide, by decide, by decide⟩, by decide⟩
    obtain ⟨sg, rfl, h1, h2⟩ := key
    exact q H' sg h1 h2 hp' (((Off.refl a H).up nL).trans ho')
end
end Lw
namespace Lw
open PySem PySem.Spec PyProof.Rows L3
open L2 hiding del del_same del_ne
section
variable {P : Program} {w : World} {K : PySem.W.Frag} {mg : Str → Option Value} {base : Heap}
theorem sqT_off {H H' : Hp} {a c : Addr} {xs : List V} (hp : Pot H a) (o : Off a H H') (h : SqT K H c xs) : SqT K H' c xs := by
  obtain ⟨x0, y0, ea, _⟩ := hp
  rcases h with (h | ⟨o', h⟩) | h
  · exact .inl (.inl (o _ _ h (ne_of h ea fun z => by cases z)))
  · exact .inl (.inr ⟨o', o _ _ h (ne_of h ea fun z => by cases z)⟩)
  · exact .inr h
theorem sqT_upL {H : Hp} {D c : Addr} {xs ys : List V} {o : HO} (hD : H D = some (.lst ys)) (h : SqT K H c xs) : SqT K (upd H D o) c xs := by
  rcases h with (h | ⟨o', h⟩) | h
  · exact .inl (.inl (by rw [upd_ne (ne_of h hD fun z => by cases z)]; exact h))
  · exact .inl (.inr ⟨o', by rw [upd_ne (ne_of h hD fun z => by cases z)]; exact h⟩)
  · exact .inr h
theorem Prods.off {H H' : Hp} {a : Addr} {bs : List AP} (hp : Pot H a) (o : Off a H H') (h : Prods K H bs) : Prods K H' bs := fun b hb => sqT_off hp o (h b hb)
theorem Prods.upL {H : Hp} {D : Addr} {ys : List V} {o : HO} {bs : List AP} (hD : H D = some (.lst ys)) (h : Prods K H bs) : Prods K (upd H D o) bs := fun b hb => sqT_upL hD (h b hb)
/-- drawn products: those that are the same as some few -/
def From (sg : List Nat) (many most : Nat) (ps : List M23.Pd) : Prop := ∃ qs : List M23.Pd, qs.length ≤ many ∧ (∀ q ∈ qs, PdOk sg q ∧ q.length ≤ most) ∧ ∀ p ∈ ps, ∃ q ∈ qs, M23.Eqv q p
def spSome (K : PySem.W.Frag) : Sp := fun vs H Q _ => ∃ (a : Addr) (sg : List Nat) (many most : Nat), vs = [.ref a, tx sg, .int (many : Int), .int (most : Int)] ∧ Pot H a ∧ Lets sg ∧ many ≤ 5 ∧ most ≤ 4 ∧
  ∀ (H' : Hp) (l : Addr) (cs : List AP), Pot H' a → Off a H H' → H l = none → H' l = some (.lst (rfs cs)) → Prods K H' cs → (∀ c ∈ cs, PdOk sg c.2 ∧ c.2.length ≤ most + 1) → cs.length ≤ 2 * many → From sg many most (cs.map Prod.snd) → Q (.ref l) H'
theorem ok_law_some (T : All K mg) : FnOk P w K mg base CX0 5 T.f_law_some T.d_law_some ["_law_pot_here", "_law_signs_here", "_law_many", "_law_most"] (spSome K) := by
  refine T.law_some.F.ok sc_law_some (fun vs H Q E h => ?_) (fun cdv A outer s H vs Q E hr h => ?_)
  · obtain ⟨a, sg, many, most, rfl, _⟩ := h
    rfl
  · obtain ⟨a, sg, many, most, rfl, hp, hl, hm5, hm4, q⟩ := h
    refine ⟨_, pss_cons (ps_setLc (i := 4) (own := [("_law_turn", 5)]) (g := gName 5) (tt := tYes) (by rfl) sc_law_some.nd rfl rfl (sw_true rfl rfl rfl (by decide +kernel)) (pi_range1 rfl T.b_range (pa_cons (pe_call (ok_law_draw T) (hr.mono (by decide)) (by rfl) T.law_draw.g T.law_draw.F.kp T.law_draw.b .nil pass0 (pa_cons (pv 0) (pa_cons (pe_op op_add (pv 2) pe_int) pa_nil))) pa_nil))
          (blkOk_by (own := [("_law_turn", 5)]) (N := ["_law_pot_here", "_law_signs_here", "_law_many", "_law_most", "_law_found", "_law_turn", "_law_bundle_here"]) (sc := defScope s_law_some) (by decide +kernel))
          (fun _ _ _ _ _ => pg_name (i := 5) sc_law_some.nd rfl (by first | exact Or.inl rfl | exact Or.inr rfl)) (fun _ _ _ _ _ => pts_nil)
          (fun _ _ _ _ _ => (pe_call (ok_law_bundle T) (hr.mono (by decide)) (by rfl) T.law_bundle.g T.law_bundle.F.kp T.law_bundle.b .nil pass0 (pa_cons (pv 0) (pa_cons (pv 1) (pa_cons (pv 3) pa_nil))))))
      (pss_cons (ps_for PassesOwn.never rfl (pi_list (pe_callTy call_list_of (by rfl) T.b_list PyProof.Rows.boot_list (pa_cons (pv 4) pa_nil))) (pg_name (i := 6) sc_law_some.nd rfl (by first | exact Or.inl rfl | exact Or.inr rfl))
        (pss_one (ps_if (pt_cmpR op_eq (pe_call (ok_law_draw T) (hr.mono (by decide)) (by rfl) T.law_draw.g T.law_draw.F.kp T.law_draw.b .nil pass0 (pa_cons (pv 0) (pa_cons pe_int pa_nil))) pe_int (nomark _)) (pss_one (ps_expr (pe_bm PySem.F.plainAttrs_list PySem.F.slot_list_append PySem.F.type_list_append mt_append (pv 4) (pa_cons (pe_call (ok_law_padded T) (hr.mono (by decide)) (by rfl) T.law_padded.g T.law_padded.F.kp T.law_padded.b .nil pass0 (pa_cons (pv 0) (pa_cons (pv 6) pa_nil))) pa_nil)))) pss_nil)))
      (pss_one (ps_ret (pe_call (ok_law_mixed T) (hr.mono (by decide)) (by rfl) T.law_mixed.g T.law_mixed.F.kp T.law_mixed.b .nil pass0 (pa_cons (pv 0) (pa_cons (pv 4) pa_nil)))))), ?_⟩
    dsimp only [cxOf]
    have hsize : sizeLine = 16777216 := sizeLine_eq
    refine ⟨_, rfl, _, rfl, _, _, rfl, rfl, a, many + 1, by push_cast; rfl, hp, by omega, by omega, fun H1 d hd hp1 ho1 => ?_⟩
    refine ⟨_, rfl, by omega, by omega, ?_⟩
    rw [show ((d : Int)).toNat = d by omega]
    intro F nF
    have naF := hp1.ne nF
    have nF0 := ho1.free nF hp1
    refine lc_it walk_range (fun i H' => Pot H' a ∧ Off a H1 H' ∧ ∃ bs : List AP, H' F = some (.lst (rfs bs)) ∧ bs.length = i ∧ Prods K H' bs ∧ ∀ b ∈ bs, PdOk sg b.2 ∧ b.2.length ≤ most) ⟨hp1.up naF, (Off.refl a H1).up nF, [], upd_same, rfl, (fun b h => by cases h), (fun b h => by cases h)⟩ (fun _ _ _ _ => trivial) (fun i x H2 H3 hi pp yy => ?_) (fun H2 pp => ?_)
    · obtain ⟨hp2, ho2, bs, hF, hbl, hP, hbo⟩ := pp
      obtain ⟨rfl, rfl⟩ := yy
      refine ⟨rfl, yes_te ⟨_, rfl, _, rfl, _, rfl, a, sg, most, rfl, hp2, hl, by omega, fun H4 b p hpk hpz hp4 ho4 nb hb => ?_⟩⟩
      have hF4 := ho4 _ _ hF naF.symm
      refine ⟨_, hF4, by unfold rfs; rw [List.length_map]; omega, hp4.up naF, (ho2.trans ho4).up nF, bs ++ [(b, p)], ?_, by rw [List.length_append, hbl]; rfl, fun c hc => ?_, fun c hc => ?_⟩
      · rw [upd_same]; unfold rfs; rw [List.map_append]; rfl
      · rcases List.mem_append.mp hc with hc | hc
        · exact sqT_upL hF4 (sqT_off hp2 ho4 (hP c hc))
        · rw [List.mem_singleton.mp hc]
          exact sqT_upL hF4 (.inl (.inl hb))
      · rcases List.mem_append.mp hc with hc | hc
        · exact hbo c hc
        · rw [List.mem_singleton.mp hc]
          exact ⟨hpk, hpz⟩
    · obtain ⟨hp2, ho2, bs, hF, hbl, hP, hbo⟩ := pp
      have o02 := ho1.trans ho2
      have hdm : bs.length ≤ many := by omega
      dsimp only [gName]
      refine ⟨_, rfl, F, _, rfl, .inl (.inl (.inl hF)), fun L nL => ?_⟩
      have naL := hp2.ne nL
      have nFL : F ≠ L := fun z => by rw [z, nL] at hF; cases hF
      have nL0 := o02.free nL hp2
      have sL := same_upd (o := .lst (rfs bs)) nL
      have hL := upd_same (H := H2) (a := L) (o := .lst (rfs bs))
      have hF3 := sL _ _ hF
      have hp3 := hp2.up (o := .lst (rfs bs)) naL
      have o03 := o02.trans (Off.of sL (a := a))
      have hP3 := hP.same sL
      generalize upd H2 L (.lst (rfs bs)) = H3 at *
      have hbm : (rfs bs).length = bs.length := List.length_map _
      refine ⟨L, rfl, ⟨_, .inl (.inl hL)⟩, ?_⟩
      refine for_it (walk_list (xs := rfs bs)) (fun j σ H' => ∃ (g6 : Option V) (cs : List AP), σ = [some (.ref a), some (tx sg), some (.int (many : Int)), some (.int (most : Int)), some (.ref F), none, g6] ∧ Pot H' a ∧ Off a H H' ∧ H' L = some (.lst (rfs bs)) ∧ Prods K H' bs ∧ H' F = some (.lst (rfs cs)) ∧ Prods K H' cs ∧ cs.length ≤ bs.length + j ∧ ∀ c ∈ cs, PdOk sg c.2 ∧ c.2.length ≤ most + 1 ∧ ∃ q ∈ bs.map Prod.snd, M23.Eqv q c.2)
        ⟨none, bs, rfl, hp3, o03, hL, hP3, hF3, hP3, Nat.le_refl _, fun c hc => ⟨(hbo c hc).1, Nat.le_succ_of_le (hbo c hc).2, c.2, List.mem_map_of_mem hc, .refl _⟩⟩ (fun j σ H' _ pp => by obtain ⟨_, _, _, _, _, h, _⟩ := pp; exact .inl (.inl h)) (fun j x σ H4 H5 hj pp yy => ?_) (fun σ H4 pp => ?_)
      · obtain ⟨g6, cs, rfl, hp4, ho4, hL4, hB4, hF4, hP4, hcl, hco⟩ := pp
        obtain ⟨rfl, yy⟩ := yy
        rw [show (rfs bs)[j]? = (bs[j]?).map fun b => V.ref b.1 from List.getElem?_map] at yy
        obtain ⟨b, hb, rfl⟩ := Option.map_eq_some_iff.mp yy
        have hbb := List.mem_of_getElem? hb
        obtain ⟨hbk, hbz⟩ := hbo b hbb
        refine ⟨_, rfl, a, 3, rfl, hp4, by decide, by decide, fun H6 d2 hd2 hp6 ho6 => ⟨rfl, _, rfl, ite2 (fun e => ?_) (fun e => ?_)⟩⟩
        · have hF6 := ho6 _ _ hF4 naF.symm
          refine ⟨_, rfl, .inl ⟨rfl, _, .inl (.inl hF6)⟩, _, rfl, _, rfl, a, b.1, sg, b.2, rfl, hp6, hl, hbk, by omega, sqT_off hp4 ho6 (hB4 b hbb), fun H7 c p' hpk heq hpz hp7 ho7 hc => ?_⟩
          have hF7 := ho7 _ _ hF6 naF.symm
          refine ⟨F, _, _, rfl, rfl, hF7, by unfold rfs; rw [List.length_map]; omega, ?_⟩
          have hL7 := ho7 _ _ (ho6 _ _ hL4 naL.symm) naL.symm
          have hB7 : Prods K H7 bs := (hB4.off hp4 ho6).off hp6 ho7
          refine ⟨_, cs ++ [(c, p')], rfl, hp7.up naF, ((ho4.trans ho6).trans ho7).up nF0, by rw [upd_ne nFL.symm]; exact hL7, hB7.upL hF7, ?_, fun z hz => ?_, by rw [List.length_append, List.length_singleton]; omega, fun z hz => ?_⟩
          · rw [upd_same]; unfold rfs; rw [List.map_append]; rfl
          · rcases List.mem_append.mp hz with hz | hz
            · exact sqT_upL hF7 (sqT_off hp6 ho7 (sqT_off hp4 ho6 (hP4 z hz)))
            · rw [List.mem_singleton.mp hz]
              exact sqT_upL hF7 hc
          · rcases List.mem_append.mp hz with hz | hz
            · exact hco z hz
            · rw [List.mem_singleton.mp hz]
              exact ⟨hpk, by have : p'.length ≤ b.2.length + 1 := hpz
                             show p'.length ≤ most + 1
                             omega, b.2, List.mem_map_of_mem hbb, heq⟩
        · exact ⟨_, cs, rfl, hp6, ho4.trans ho6, ho6 _ _ hL4 naL.symm, hB4.off hp4 ho6, ho6 _ _ hF4 naF.symm, hP4.off hp4 ho6, by omega, hco⟩
      · obtain ⟨g6, cs, rfl, hp4, ho4, hL4, hB4, hF4, hP4, hcl, hco⟩ := pp
        rw [hbm] at hcl
        refine ⟨_, rfl, _, rfl, a, F, rfs cs, rfl, hp4, .inl (.inl (.inl hF4)), by unfold rfs; rw [List.length_map]; omega, fun H7 l l' hperm hp7 ho7 nl hl' => ?_⟩
        obtain ⟨cs', hpc, rfl⟩ := perm_map (f := fun b : AP => V.ref b.1) hperm rfl
        have o07 := ho4.trans ho7
        refine q H7 l cs' hp7 o07 ?_ hl' (fun c hc => sqT_off hp4 ho7 (hP4 c (hpc.mem_iff.mp hc))) (fun c hc => ?_) (by rw [hpc.length_eq]; omega) ⟨bs.map Prod.snd, by rw [List.length_map]; exact hdm, fun q hq => ?_, fun p hp' => ?_⟩
        · exact ho4.free nl hp4
        · exact ⟨(hco c (hpc.mem_iff.mp hc)).1, (hco c (hpc.mem_iff.mp hc)).2.1⟩
        · obtain ⟨b, hb, rfl⟩ := List.mem_map.mp hq
          exact hbo b hb
        · obtain ⟨c, hc, rfl⟩ := List.mem_map.mp hp'
          exact (hco c (hpc.mem_iff.mp hc)).2.2
end
end Lw
namespace Lw
open PySem PySem.Spec PyProof.Rows L3
open L2 hiding del del_same del_ne
theorem ok_app {a b : Str} (ha : PyData.strOk a = true) (hb : PyData.strOk b = true) : PyData.strOk (a ++ b) = true := by
  show (a.cps ++ b.cps).all _ = true
  rw [Array.all_append]
  have ha' : a.cps.all (· < 0x110000) = true := ha
  have hb' : b.cps.all (· < 0x110000) = true := hb
  rw [ha', hb']; rfl
theorem ok_of (s : String) : PyData.strOk (Str.ofString s) = true := by
  rw [Str.ofString_eq_toList]
  show ((s.toList.map Char.toNat).toArray).all _ = true
  rw [List.all_toArray, List.all_eq_true]
  intro n hn
  obtain ⟨c, _, rfl⟩ := List.mem_map.mp hn
  refine decide_eq_true ?_
  have h := c.valid
  show c.val.toNat < _
  have h2 : c.val.toNat < 0xd800 ∨ (0xdfff < c.val.toNat ∧ c.val.toNat < 0x110000) := h
  omega
theorem ok_textFrom : ∀ (ts : List Str) (k : Nat) (acc : Str), PyData.strOk acc = true → (∀ t ∈ ts, PyData.strOk t = true) → PyData.strOk (textFrom k acc ts) = true
  | [], _, _, h, _ => h
  | t :: ts, k, acc, h, ht => by
    refine ok_textFrom ts (k + 1) _ (ok_app (ok_app h ?_) (ht t List.mem_cons_self)) fun x hx => ht x (List.mem_cons_of_mem _ hx)
    exact ok_of _
theorem ok_listText {ts : List Str} (h : ∀ t ∈ ts, PyData.strOk t = true) : PyData.strOk (listText ts) = true := ok_app (ok_textFrom _ _ _ (ok_of _) h) (ok_of _)
theorem ok_shownAll : ∀ {xs : List PyData}, (∀ d ∈ xs, PyData.strOk d.shown = true) → ∀ t ∈ PyData.shownAll xs, PyData.strOk t = true
  | [], _, t, ht => by simp only [PyData.shownAll] at ht; cases ht
  | x :: xs, h, t, ht => by
    simp only [PyData.shownAll] at ht
    rcases List.mem_cons.mp ht with rfl | ht
    · exact h x List.mem_cons_self
    · exact ok_shownAll (fun d hd => h d (List.mem_cons_of_mem _ hd)) t ht
theorem ok_list {xs : List PyData} (h : ∀ d ∈ xs, PyData.strOk d.shown = true) : PyData.strOk (PyData.list xs).shown = true := by
  simp only [PyData.shown]
  exact ok_listText (ok_shownAll h)
theorem chr_ok : ((List.range 123).all fun c => (Builtin.Str.reprChar 39 c).all (fun d => decide (d < 0x110000)) && (Builtin.Str.reprChar 34 c).all (fun d => decide (d < 0x110000))) = true := by decide +kernel
theorem fold_ok {q : Nat} (hq : q = 39 ∨ q = 34) : ∀ (l : List Nat) (acc : Array Nat), (∀ c ∈ l, c < 123) → (∀ d ∈ acc, d < 0x110000) → ∀ d ∈ l.foldl (fun out c => out ++ (Builtin.Str.reprChar q c).toArray) acc, d < 0x110000
  | [], _, _, h => h
  | c :: l, acc, hl, h => by
    refine fold_ok hq l _ (fun d hd => hl d (List.mem_cons_of_mem _ hd)) fun d hd => ?_
    rcases Array.mem_append.mp hd with hd | hd
    · exact h d hd
    · have h1 := List.all_eq_true.mp chr_ok c (List.mem_range.mpr (hl c List.mem_cons_self))
      rw [Bool.and_eq_true, List.all_eq_true, List.all_eq_true] at h1
      have hd' : d ∈ Builtin.Str.reprChar q c := by simpa using hd
      rcases hq with rfl | rfl
      · exact of_decide_eq_true (h1.1 d hd')
      · exact of_decide_eq_true (h1.2 d hd')
theorem ok_repr {l : List Nat} (h : ∀ c ∈ l, c < 123) : PyData.strOk (reprText (tS l)) = true := by
  have hq : reprQuote (tS l) = 39 ∨ reprQuote (tS l) = 34 := by
    unfold reprQuote
    split
    · exact .inr rfl
    · exact .inl rfl
  have hq2 : reprQuote (tS l) < 0x110000 := by rcases hq with e | e <;> rw [e] <;> decide
  show (reprText (tS l)).cps.all (· < 0x110000) = true
  rw [Array.all_eq_true_iff_forall_mem]
  intro d hd
  refine decide_eq_true ?_
  unfold reprText at hd
  rcases Array.mem_push.mp hd with hd | rfl
  · rw [← Array.foldl_toList] at hd
    exact fold_ok hq (tS l).cps.toList #[reprQuote (tS l)] (fun c hc => h c (by simpa [tS] using hc)) (fun x hx => by
      have : x = reprQuote (tS l) := by simpa using hx
      rw [this]; exact hq2) d (by simpa using hd)
  · exact hq2
theorem ok_join (sep : Str) (hs : PyData.strOk sep = true) : ∀ ts : List Str, (∀ t ∈ ts, PyData.strOk t = true) → PyData.strOk (Str.join sep ts) = true
  | [], _ => by simp only [Str.join]; decide +kernel
  | [x], h => h x List.mem_cons_self
  | x :: y :: r, h => ok_app (ok_app (h x List.mem_cons_self) hs) (ok_join sep hs (y :: r) fun t ht => h t (List.mem_cons_of_mem _ ht))
theorem ok_tuple {xs : List PyData} (h : ∀ d ∈ xs, PyData.strOk d.shown = true) : PyData.strOk (PyData.tuple xs).shown = true := by
  simp only [PyData.shown]
  refine ok_app (ok_app (ok_of _) (ok_join _ (ok_of _) _ (ok_shownAll h))) ?_
  exact ok_of _
theorem ok_dP {p : M23.Pd} (h : ∀ x ∈ p, ∀ c ∈ x, c < 123) : PyData.strOk (M23.dP p).shown = true := by
  unfold M23.dP dS M23.sS
  refine ok_tuple fun d hd => ?_
  rw [List.map_map] at hd
  obtain ⟨x, hx, rfl⟩ := List.mem_map.mp hd
  show PyData.strOk (PyData.str (tS x)).shown = true
  rw [PyData.shown_str]
  exact ok_repr (h x hx)
theorem ok_dPL {kp : List M23.Pd} (h : ∀ p ∈ kp, ∀ x ∈ p, ∀ c ∈ x, c < 123) : PyData.strOk (dPL kp).shown = true := by
  refine ok_list fun d hd => ?_
  obtain ⟨p, hp, rfl⟩ := List.mem_map.mp hd
  exact ok_dP (h p hp)
theorem ok_spk {sg : List Nat} {kp : List M23.Pd} (hs : ∀ c ∈ sg, c < 123) (h : ∀ p ∈ kp, ∀ x ∈ p, ∀ c ∈ x, c < 123) : PyData.strOk (spk sg kp) = true :=
  ok_app (ok_app (ok_app (ok_app (ok_of _) (ok_repr hs)) (ok_of _)) (ok_dPL h)) (ok_of _)
theorem PcOk.low {sg x : List Nat} (hl : Lets sg) (h : PcOk sg x) : ∀ c ∈ x, c < 123 := by
  rcases h with ⟨c, hc, rfl⟩ | ⟨l, h1, h2, h3, rfl⟩
  · intro d hd
    rw [List.mem_singleton.mp hd]
    have := (hl.az c hc).2
    omega
  · intro d hd
    rcases List.mem_append.mp hd with hd | hd
    · have := (hl.az d (h3 d hd)).2; omega
    · rw [List.mem_singleton.mp hd]; decide
theorem spk_len {sg : List Nat} {kp : List M23.Pd} (hl : Lets sg) (h : Few kp) : (spk sg kp).length ≤ 60000 := by
  have l1 : (reprText (tS sg)).length ≤ 46 := shownLen (wt_sg hl)
  have l2 := shownLen (wt_dPL h)
  have c1 : ("Sum(" : Str).length = 4 := by decide +kernel
  have c2 : (", " : Str).length = 2 := by decide +kernel
  have c3 : (")" : Str).length = 1 := by decide +kernel
  unfold spk
  rw [strLen_append, strLen_append, strLen_append, strLen_append]
  omega
theorem wt_str {z : Str} {n : Nat} (h : PyData.strOk z = true) (hn : z.length ≤ n) : Wt (.str z) n 0 := by
  have e : z = tS z.cps.toList := by cases z; simp [tS]
  rw [e]
  refine Wt.text (fun c hc => ?_) (by have : z.cps.toList.length = z.length := by simp [Str.length]
                                      omega)
  have h' : z.cps.all (· < 0x110000) = true := h
  rw [Array.all_eq_true_iff_forall_mem] at h'
  exact of_decide_eq_true (h' c (by simpa using hc))
end Lw
namespace Lw
open PySem PySem.Spec PyProof.Rows L3
open L2 hiding del del_same del_ne
theorem str_tx (z : Str) : V.str z = tx z.cps.toList := by cases z; simp [tx, tS]
theorem cat_tx (a b : Str) : tx (a.cps.toList ++ b.cps.toList) = V.str (a ++ b) := by
  show V.str (tS _) = V.str (a ++ b)
  congr 1
  cases a with
  | mk a =>
    cases b with
    | mk b =>
      show (⟨(a.toList ++ b.toList).toArray⟩ : Str) = ⟨a ++ b⟩
      congr 1
      simp
theorem lenc (z : Str) : z.cps.toList.length = z.length := by simp [Str.length]
section
variable {P : Program} {w : World} {K : PySem.W.Frag} {mg : Str → Option Value} {base : Heap}
/-- a sum made of products over its letters -/
structure Made (C : Addr) (K : PySem.W.Frag) (H : Hp) (a : Addr) (sg : List Nat) (ps : List M23.Pd) : Prop where
  sum : SumO C K H a sg (M23.kept ps)
  lets : Lets sg
  ok : ∀ p ∈ ps, PdOk sg p
  few : ps.length ≤ 20
  len : ∀ p ∈ ps, p.length ≤ 20
theorem Made.fewK {C : Addr} {H : Hp} {a : Addr} {sg : List Nat} {ps : List M23.Pd} (h : Made C K H a sg ps) : Few (M23.kept ps) := by
  refine ⟨Nat.le_trans (M23.kept_len ps) h.few, fun p hp => ?_⟩
  obtain ⟨q, hq, rfl⟩ := M23.kept_mem hp
  exact ⟨Nat.le_trans (M23.redOf_len q) (h.len q hq), fun y hy => (h.ok q hq y (M23.redOf_mem hy)).tx h.lets⟩
theorem Made.same {C : Addr} {H H' : Hp} {a : Addr} {sg : List Nat} {ps : List M23.Pd} (h : Made C K H a sg ps) (s : Same H H') : Made C K H' a sg ps := ⟨h.sum.same s, h.lets, h.ok, h.few, h.len⟩
def spTold (K : PySem.W.Frag) (C : Addr) : Sp := fun vs H Q _ => ∃ (sg : List Nat) (a l : Addr) (bs : List AP), vs = [tx sg, .ref a, .ref l] ∧ Made C K H a sg (bs.map Prod.snd) ∧ SqL K H l (rfs bs) ∧ Prods K H bs ∧ ∀ H', Same H H' → Q (.bl true) H'
theorem ok_law_told_right (T : All K mg) : FnOkG P w K mg base CX0 8 T.f_law_told_right T.d_law_told_right ["_law_signs_here", "_law_made", "_law_some_here"] (spTold K T.C_Sum) := by
  refine okG T.law_told_right.F sc_law_told_right (fun vs H Q E h => ?_) (fun cdv A outer s H vs Q E hr hG h => ?_)
  · obtain ⟨sg, a, l, bs, rfl, _⟩ := h
    rfl
  · obtain ⟨sg, a, l, bs, rfl, hM, hS, hP, q⟩ := h
    refine ⟨_, pss_cons (ps_set (i := 3) sc_law_told_right.nd rfl (by first | exact Or.inl rfl | exact Or.inr rfl) (pe_call (ok_law_kept T) (hr.mono (by decide)) (by rfl) T.law_kept.g T.law_kept.F.kp T.law_kept.b .nil pass0 (pa_cons (pv 0) (pa_cons (pv 2) pa_nil))))
      (pss_cons (ps_set (i := 4) sc_law_told_right.nd rfl (by first | exact Or.inl rfl | exact Or.inr rfl) (pe_op op_addT (pe_op op_addT (pe_op op_addT (pe_op op_addT pe_str (pe_callB (call_reprD hr hG) (by rfl) T.b_repr (by decide +kernel) (pa_cons (pv 0) pa_nil))) pe_str) (pe_callB (call_reprD hr hG) (by rfl) T.b_repr (by decide +kernel) (pa_cons (pv 3) pa_nil))) pe_str))
      (pss_cons (ps_for PassesOwn.never rfl (pi_range1 rfl T.b_range (pa_cons pe_int pa_nil)) (pg_name (i := 5) sc_law_told_right.nd rfl (by first | exact Or.inl rfl | exact Or.inr rfl))
        (pss_cons (ps_set (i := 6) sc_law_told_right.nd rfl (by first | exact Or.inl rfl | exact Or.inr rfl) (pe_meth0 (pv 1) T.cl_Sum T.Sum_products.m (ok_Sum_products T) (hr.mono (by decide)) T.Sum_products.b .nil pass0))
      (pss_cons (ps_if (pt_cmpR op_ne (pe_callB (call_reprD hr hG) (by rfl) T.b_repr (by decide +kernel) (pa_cons (pe_lst (pa_cons (pv 6) (pa_cons (pe_prop (pv 1) T.cl_Sum T.Sum_letters.p (ok_Sum_letters T) (hr.mono (by decide)) T.Sum_letters.b .nil pass0 rfl) (pa_cons (pe_callB (cr_lenOwn (FnOkG.of (ok_Sum_len T)) (hr.mono (by decide)) hG T.Sum_len.b T.Sum_len.m) (by rfl) T.b_len PySem.boot_len (pa_cons (pv 1) pa_nil)) (pa_cons (pe_callB (cr_reprOwn (FnOkH.toG (ok_Sum_repr T)) (hr.mono (by decide)) hG T.Sum_repr.b T.Sum_repr.m) (by rfl) T.b_repr (by decide +kernel) (pa_cons (pv 1) pa_nil)) pa_nil))))) pa_nil)) (pe_callB (call_reprD hr hG) (by rfl) T.b_repr (by decide +kernel) (pa_cons (pe_lst (pa_cons (pv 3) (pa_cons (pv 0) (pa_cons (pe_callB call_len_seq (by rfl) T.b_len PySem.boot_len (pa_cons (pv 3) pa_nil)) (pa_cons (pv 4) pa_nil))))) pa_nil)) (nomark _)) (pss_one (ps_ret pe_bl)) pss_nil)
      (pss_cons (ps_expr (pe_bm PySem.F.plainAttrs_list PySem.F.slot_list_append PySem.F.type_list_append mt_append (pv 6) (pa_cons (pe_tup (pa_cons pe_str pa_nil)) pa_nil)))
      (pss_one (ps_expr (pe_bm0 PySem.F.plainAttrs_list PySem.F.slot_list_reverse PySem.F.type_list_reverse mt_reverse (pv 6))))))))
      (pss_one (ps_ret pe_bl)))), ?_⟩
    dsimp only [cxOf]
    have hl := hM.lets
    have hfew := hM.fewK
    obtain ⟨kp, hkp⟩ : ∃ kp, kp = M23.kept (bs.map Prod.snd) := ⟨_, rfl⟩
    have hMs := hM.sum
    rw [← hkp] at hfew hMs
    have hkl : ∀ p ∈ kp, ∀ x ∈ p, ∀ c ∈ x, c < 123 := fun p hp x hx => by
      rw [hkp] at hp
      obtain ⟨q, hq, rfl⟩ := M23.kept_mem hp
      exact (hM.ok q hq x (M23.redOf_mem hx)).low hl
    have hsl : ∀ c ∈ sg, c < 123 := fun c hc => by have := (hl.az c hc).2; omega
    have hsize : sizeLine = 16777216 := sizeLine_eq
    have l0 := spk_len hl hfew
    have l1 : (reprText (tS sg)).length ≤ 46 := shownLen (wt_sg hl)
    have l2 := shownLen (wt_dPL hfew)
    have c1 : (Str.ofString "Sum(").length = 4 := by decide +kernel
    have c2 : (Str.ofString ", ").length = 2 := by decide +kernel
    have c3 : (Str.ofString ")").length = 1 := by decide +kernel
    have w1 := (wt_sg hl).shw (by decide) (by decide)
    have w2 := (wt_dPL hfew).shw (by decide) (by decide)
    have hbz : bs.length ≤ 20 := by have := hM.few; rw [List.length_map] at this; exact this
    refine ⟨_, rfl, _, rfl, sg, l, bs, rfl, hl, .inl hS, hP, hbz, fun b hb => ⟨hM.ok _ (List.mem_map_of_mem hb), Nat.le_trans (hM.len _ (List.mem_map_of_mem hb)) (by decide)⟩, fun H1 pD cs s1 nD hD hcP hcs => ?_⟩
    rw [← hkp] at hcs
    have hdD : Dp K H1 (.ref pD) (dPL kp) := by
      have := aps_dp hcP
      rw [hcs] at this
      exact .lst (.inl (.inl hD)) this
    refine ⟨_, rfl, tx sg, .str (tS sg), rfl, .str _, w1.s, w1.z, w1.p, ?_⟩
    refine ⟨_, _, str_tx _, str_tx _, by rw [lenc, lenc]; show (Str.ofString "Sum(").length + (reprText (tS sg)).length ≤ _; omega, ?_⟩
    rw [cat_tx]
    refine ⟨_, _, str_tx _, str_tx _, by rw [lenc, lenc]; show (Str.ofString "Sum(" ++ reprText (tS sg)).length + _ ≤ _; rw [strLen_append]; omega, ?_⟩
    rw [cat_tx]
    refine ⟨_, rfl, .ref pD, dPL kp, rfl, hdD, w2.s, w2.z, w2.p, ?_⟩
    refine ⟨_, _, str_tx _, str_tx _, by rw [lenc, lenc]; show ((Str.ofString "Sum(" ++ reprText (tS sg)) ++ Str.ofString ", ").length + _ ≤ _; rw [strLen_append, strLen_append]; omega, ?_⟩
    rw [cat_tx]
    refine ⟨_, _, str_tx _, str_tx _, by rw [lenc, lenc]; show (((Str.ofString "Sum(" ++ reprText (tS sg)) ++ Str.ofString ", ") ++ (dPL kp).shown).length + _ ≤ _; rw [strLen_append, strLen_append, strLen_append]; omega, ?_⟩
    rw [cat_tx]
    show gName 4 (.str (spk sg kp)) _ H1 _
    have w3 : Wt (.str (spk sg kp)) 60000 0 := wt_str (ok_spk hsl hkl) l0
    have hdw : Wt (.list [dPL kp, .str (tS sg), .int (kp.length : Int), .str (spk sg kp)]) 240004 3 := by
      refine (Wt.list (w := 60000) (k := 2) (n := 4) (fun d hd => ?_) (by show 4 ≤ 4; decide)).mono (by decide) (by decide)
      rcases List.mem_cons.mp hd with rfl | hd
      · exact (wt_dPL hfew).mono (by decide) (by decide)
      rcases List.mem_cons.mp hd with rfl | hd
      · exact (wt_sg hl).mono (by decide) (by decide)
      rcases List.mem_cons.mp hd with rfl | hd
      · exact (Wt.nat (by have := hfew.1; omega)).mono (by decide) (by decide)
      · rw [List.mem_singleton.mp hd]
        exact w3.mono (by decide) (by decide)
    have hdq := hdw.shw (by decide) (by decide)
    refine ⟨_, rfl, by decide, by decide, ?_⟩
    rw [show ((2 : Int)).toNat = 2 from rfl]
    refine for_it walk_range (fun i σ H' => ∃ g5 g6, σ = [some (tx sg), some (.ref a), some (.ref l), some (.ref pD), some (.str (spk sg kp)), g5, g6] ∧ Same H1 H') ⟨none, none, rfl, Same.refl _⟩ (fun _ _ _ _ _ => trivial) (fun i x σ H2 H3 hi pp yy => ?_) (fun σ H2 pp => ?_)
    · obtain ⟨g5, g6, rfl, s2⟩ := pp
      obtain ⟨rfl, rfl⟩ := yy
      have hM2 := (hMs.same s1).same s2
      obtain ⟨dx, t, hat, hdt⟩ := hM2.at_
      refine ⟨_, rfl, a, dx, _, rfl, hat, rfl, a, sg, kp, rfl, hM2, fun pT bt npT hbt hbP => ?_⟩
      have sT := same_upd (o := .lst (rfs bt)) npT
      have hT := upd_same (H := H3) (a := pT) (o := .lst (rfs bt))
      have hatT := sT _ _ hat
      have hM3 := hM2.same sT
      have hbP3 := hbP.same sT
      have s3 := s2.trans sT
      have npT1 := s2.free npT
      show gName 6 (.ref pT) _ (upd H3 pT (.lst (rfs bt))) _
      generalize upd H3 pT (.lst (rfs bt)) = H4 at *
      have hdT : Dp K H4 (.ref pT) (dPL kp) := by
        have := aps_dp hbP3
        rw [hbt] at this
        exact .lst (.inl (.inl hT)) this
      dsimp only [gName]
      refine ⟨_, rfl, _, rfl, a, dx, _, rfl, hatT, a, sg, kp, rfl, hM3, _, rfl, a, dx, _, rfl, hatT, a, sg, kp, rfl, hM3, kp.length, rfl, by have := hfew.1; omega, _, rfl, a, dx, _, rfl, hatT, a, sg, kp, rfl, hM3, hl, hfew, fun H5 s5 => ⟨_, rfl, ?_⟩⟩
      refine ⟨by show 4 ≤ sizeLine; decide, fun L1 nL1 => ?_⟩
      have sL1 := same_upd (o := .lst [.ref pT, tx sg, .int (kp.length : Int), .str (spk sg kp)]) nL1
      have h56 := s5.trans sL1
      have hdL1 : Dp K (upd H5 L1 (.lst [.ref pT, tx sg, .int (kp.length : Int), .str (spk sg kp)])) (.ref L1) (.list [dPL kp, .str (tS sg), .int (kp.length : Int), .str (spk sg kp)]) := .lst (.inl (.inl upd_same)) (.cons (Dp.same h56 hdT) (.cons (.str _) (.cons (.int _) (.cons (.str _) .nil))))
      refine ⟨.ref L1, _, rfl, hdL1, hdq.s, hdq.z, hdq.p, ?_⟩
      generalize upd H5 L1 (.lst [.ref pT, tx sg, .int (kp.length : Int), .str (spk sg kp)]) = H6 at *
      have s6 := s3.trans h56
      refine ⟨_, rfl, _, rfl, _, rfl, pD, rfs cs, rfl, .inl (.inl (.inl (s6 _ _ hD))), _, rfl, by show 4 ≤ sizeLine; decide, fun L2 nL2 => ?_⟩
      have hcl : ((rfs cs).length : Int) = (kp.length : Int) := by unfold rfs; rw [← hcs, List.length_map, List.length_map]
      rw [hcl]
      have sL2 := same_upd (o := .lst [.ref pD, tx sg, .int (kp.length : Int), .str (spk sg kp)]) nL2
      have hdL2 : Dp K (upd H6 L2 (.lst [.ref pD, tx sg, .int (kp.length : Int), .str (spk sg kp)])) (.ref L2) (.list [dPL kp, .str (tS sg), .int (kp.length : Int), .str (spk sg kp)]) := .lst (.inl (.inl upd_same)) (.cons (Dp.same (s6.trans sL2) hdD) (.cons (.str _) (.cons (.int _) (.cons (.str _) .nil))))
      refine ⟨.ref L2, _, rfl, hdL2, hdq.s, hdq.z, hdq.p, rfl, _, rfl, ite_f (by simp) ?_⟩
      have s7 := s6.trans sL2
      have hT7 := sL2 _ _ (h56 _ _ hT)
      generalize upd H6 L2 (.lst [.ref pD, tx sg, .int (kp.length : Int), .str (spk sg kp)]) = H7 at *
      dsimp only [tNext]
      refine ⟨_, rfl, .inl ⟨rfl, _, .inl (.inl hT7)⟩, by show 1 ≤ sizeLine; decide, fun qa nqa => ?_⟩
      have sq := same_upd (o := .tup [V.str (Str.ofString "a")]) nqa
      have hT8 := sq _ _ hT7
      have s8 := s7.trans sq
      have hbl : (rfs bt).length ≤ 20 := by unfold rfs; rw [List.length_map]; have h1 := hfew.1; rw [← hbt, List.length_map] at h1; exact h1
      generalize upd H7 qa (.tup [V.str (Str.ofString "a")]) = H8 at *
      refine ⟨pT, _, _, rfl, rfl, hT8, by omega, ?_⟩
      have s9 : Same H1 (upd H8 pT (.lst (rfs bt ++ [.ref qa]))) := same_up s8 npT1
      have hT9 : upd H8 pT (.lst (rfs bt ++ [.ref qa])) pT = some (.lst (rfs bt ++ [.ref qa])) := upd_same
      generalize upd H8 pT (.lst (rfs bt ++ [.ref qa])) = H9 at *
      refine ⟨_, rfl, .inl ⟨rfl, _, .inl (.inl hT9)⟩, pT, _, rfl, rfl, hT9, _, _, rfl, same_up s9 npT1⟩
    · obtain ⟨g5, g6, rfl, s2⟩ := pp
      exact q _ (s1.trans s2)
theorem Made.asked {C : Addr} {H : Hp} {a : Addr} {sg : List Nat} {ps : List M23.Pd} (h : Made C K H a sg ps) : Asked (M23.kept ps) := by
  refine ⟨Nat.le_trans (M23.kept_len ps) h.few, fun p hp => ?_⟩
  obtain ⟨q, hq, rfl⟩ := M23.kept_mem hp
  exact ⟨Nat.le_trans (M23.redOf_len q) (Nat.le_trans (h.len q hq) (by decide)), fun y hy => ⟨(h.ok q hq y (M23.redOf_mem hy)).ok h.lets, Nat.le_trans ((h.ok q hq y (M23.redOf_mem hy)).len h.lets) (by decide)⟩⟩
theorem Made.okK {C : Addr} {H : Hp} {a : Addr} {sg : List Nat} {ps : List M23.Pd} (h : Made C K H a sg ps) : ∀ p ∈ M23.kept ps, PdOk sg p := fun p hp => by
  obtain ⟨q, hq, rfl⟩ := M23.kept_mem hp
  exact fun y hy => h.ok q hq y (M23.redOf_mem hy)
theorem ins_over {sg : List Nat} (hl : Lets sg) {kp kq : List M23.Pd} (hp : ∀ p ∈ kp, PdOk sg p) (hq : ∀ q ∈ kq, q.length ≤ 20) (h : ∀ t, M23.Over sg t → M23.InS kp t → M23.InS kq t) (t : List Nat) (ht : M23.InS kp t) : M23.InS kq t := by
  obtain ⟨p, hpm, hin⟩ := ht
  have hok : ∀ x ∈ p, M23.Ok x := fun x hx => (hp p hpm x hx).ok hl
  obtain ⟨q, hqm, hq1⟩ := h _ (unr_over (N := 21) hl (hp p hpm)) ⟨p, hpm, M23.unr_in 21 hok⟩
  exact ⟨q, hqm, hin.up (M23.emb_of_unr hok (Nat.lt_succ_of_le (hq q hqm)) hq1)⟩
theorem two_iff {C : Addr} {H : Hp} {a b : Addr} {sg : List Nat} {ps qs : List M23.Pd} (hM : Made C K H a sg ps) (hN : Made C K H b sg qs) (h : ∀ t, M23.Over sg t → ((M23.kept ps).any fun p => (M23.runI p 0 (M23.tP t)).isSome) = (M23.kept qs).any fun p => (M23.runI p 0 (M23.tP t)).isSome) : M23.kept ps = M23.kept qs := by
  have hl := hM.lets
  have hokp : M23.AllOk ps := fun p hp x hx => (hM.ok p hp x hx).ok hl
  have hokq : M23.AllOk qs := fun p hp x hx => (hN.ok p hp x hx).ok hl
  refine (M23.kept_iff hokp hokq).mpr fun t => ?_
  rw [← M23.inS_kept hokp, ← M23.inS_kept hokq]
  constructor
  · refine ins_over hl hM.okK (fun q hq => (hN.fewK.2 q hq).1) (fun t ho hi => ?_) t
    exact M23.any_in.mp (by rw [← h t ho]; exact M23.any_in.mpr hi)
  · refine ins_over hl hN.okK (fun q hq => (hM.fewK.2 q hq).1) (fun t ho hi => ?_) t
    exact M23.any_in.mp (by rw [h t ho]; exact M23.any_in.mpr hi)
def spTwo (K : PySem.W.Frag) (C : Addr) : Sp := fun vs H Q _ => ∃ (sg : List Nat) (a b : Addr) (ps qs D : List M23.Pd), vs = [tx sg, .ref a, .ref b] ∧ Made C K H a sg ps ∧ Made C K H b sg qs ∧ (∀ p ∈ M23.kept ps ++ M23.kept qs, p ∈ D) ∧ M23.cnt D ≤ 2000000 ∧ ∀ H', Same H H' → Q (.bl true) H'
theorem ok_law_two_right (T : All K mg) : FnOkG P w K mg base CX0 8 T.f_law_two_right T.d_law_two_right ["_law_signs_here", "_law_one", "_law_other"] (spTwo K T.C_Sum) := by
  refine okG T.law_two_right.F sc_law_two_right (fun vs H Q E h => ?_) (fun cdv A outer s H vs Q E hr hG h => ?_)
  · obtain ⟨sg, a, b, ps, qs, D, rfl, _⟩ := h
    rfl
  · obtain ⟨sg, a, b, ps, qs, D, rfl, hM, hN, hD, hc, q⟩ := h
    refine ⟨_, pss_cons (ps_set (i := 3) sc_law_two_right.nd rfl (by first | exact Or.inl rfl | exact Or.inr rfl) (pe_cmpR op_isN (pe_call (ok_law_apart T) (hr.mono (by decide)) (by rfl) T.law_apart.g T.law_apart.F.kp T.law_apart.b .nil pass0 (pa_cons (pv 0) (pa_cons (pe_lst (pa_cons (pe_meth0 (pv 1) T.cl_Sum T.Sum_products.m (ok_Sum_products T) (hr.mono (by decide)) T.Sum_products.b .nil pass0) (pa_cons (pe_meth0 (pv 2) T.cl_Sum T.Sum_products.m (ok_Sum_products T) (hr.mono (by decide)) T.Sum_products.b .nil pass0) pa_nil))) (pa_cons pe_str pa_nil)))) pe_non (by rfl)))
      (pss_one (ps_ret (pe_cmpR op_eq (pe_callB (call_reprD hr hG) (by rfl) T.b_repr (by decide +kernel) (pa_cons (pe_lst (pa_cons (pe_cmpR (op_eqOwn (FnOkG.of (ok_Sum_eq T)) (hr.mono (by decide)) hG T.Sum_eq.b T.Sum_eq.m) (pv 1) (pv 2) (by rfl)) (pa_cons (pe_cmpR (op_neOwn (FnOkG.of (ok_Sum_eq T)) (hr.mono (by decide)) hG T.Sum_eq.b T.Sum_eq.m (mro_obj T.mk_Sum) T.ne_Sum) (pv 1) (pv 2) (by rfl)) pa_nil))) pa_nil)) (pe_callB (call_reprD hr hG) (by rfl) T.b_repr (by decide +kernel) (pa_cons (pe_lst (pa_cons (pv 3) (pa_cons (pe_not (pv 3)) pa_nil))) pa_nil)) (by rfl)))), ?_⟩
    dsimp only [cxOf]
    have hl := hM.lets
    have hfk := hM.fewK
    have hfq := hN.fewK
    have hMs := hM.sum
    have hNs := hN.sum
    have hokp : M23.AllOk ps := fun p hp x hx => (hM.ok p hp x hx).ok hl
    have hokq : M23.AllOk qs := fun p hp x hx => (hN.ok p hp x hx).ok hl
    have hkey := two_iff hM hN
    have hAk := hM.asked
    have hAq := hN.asked
    generalize M23.kept ps = kp at *
    generalize M23.kept qs = kq at *
    obtain ⟨dx, t, hat, hdt⟩ := hMs.at_
    obtain ⟨dy, u, hbt, hdu⟩ := hNs.at_
    refine ⟨_, rfl, _, rfl, a, dx, _, rfl, hat, rfl, a, sg, kp, rfl, hMs, fun pA bA npA eA hPA => ?_⟩
    have sA := same_upd (o := .lst (rfs bA)) npA
    have hA1 := upd_same (H := H) (a := pA) (o := .lst (rfs bA))
    have hPA1 := hPA.same sA
    generalize upd H pA (.lst (rfs bA)) = H1 at *
    refine ⟨_, rfl, b, dy, _, rfl, sA _ _ hbt, rfl, b, sg, kq, rfl, hNs.same sA, fun pB bB npB eB hPB => ?_⟩
    have sB := same_upd (o := .lst (rfs bB)) npB
    have hB2 := upd_same (H := H1) (a := pB) (o := .lst (rfs bB))
    have hPB2 := hPB.same sB
    have hA2 := sB _ _ hA1
    have hPA2 := hPA1.same sB
    have s2 := sA.trans sB
    generalize upd H1 pB (.lst (rfs bB)) = H2 at *
    refine ⟨by show 2 ≤ sizeLine; decide, fun L nL => ?_⟩
    have sL := same_upd (o := .lst [V.ref pA, V.ref pB]) nL
    have hL := upd_same (H := H2) (a := L) (o := .lst [V.ref pA, V.ref pB])
    have s3 := s2.trans sL
    generalize upd H2 L (.lst [V.ref pA, V.ref pB]) = H3 at *
    refine ⟨sg, L, [(pA, kp), (pB, kq)], D, _, _, rfl, hl, .inl (.inl hL), fun z hz => ?_, rfl, fun zs hzs z hz => ?_, hc, .inr ⟨rfl, rfl⟩, fun H4 z s4 hres => ?_⟩
    · rcases List.mem_cons.mp hz with rfl | hz
      · exact ⟨⟨bA, .inl (.inl (sL _ _ hA2)), eA, hPA2.same sL⟩, hAk⟩
      · rw [List.mem_singleton.mp hz]
        exact ⟨⟨bB, .inl (.inl (sL _ _ hB2)), eB, hPB2.same sL⟩, hAq⟩
    · rcases List.mem_cons.mp hzs with rfl | hzs
      · exact hD z (List.mem_append_left _ hz)
      · rw [List.mem_singleton.mp hzs] at hz
        exact hD z (List.mem_append_right _ hz)
    · have hd : decide (z = V.non) = decide (kp = kq) := by
        rcases hres with ⟨⟨t, h1, h2⟩, t', rfl⟩ | ⟨hno, rfl⟩
        · have : ¬ kp = kq := fun e => by
            rw [show (List.map Prod.snd [(pA, kp), (pB, kq)]) = [kp, kq] from rfl, e] at h2
            have h3 : hitS bne (M23.stS [kq, kq] t) = false := by
              show (((M23.stV kq t).any Option.isSome) != ((M23.stV kq t).any Option.isSome)) = false
              simp
            rw [h3] at h2
            cases h2
          rw [decide_eq_false this]
          rfl
        · rw [decide_eq_true (hkey fun t ht => ?_)]
          · rfl
          · have := hno t ht
            rw [show (List.map Prod.snd [(pA, kp), (pB, kq)]) = [kp, kq] from rfl] at this
            have h3 : (((M23.stV kp t).any Option.isSome) != ((M23.stV kq t).any Option.isSome)) = false := this
            rw [M23.any_st, M23.any_st] at h3
            exact bne_eq_false_iff_eq.mp h3
      refine ⟨rfl, ?_⟩
      rw [hd]
      have s04 := s3.trans s4
      have hM4 := hMs.same s04
      have hN4 := hNs.same s04
      have hat4 := s04 _ _ hat
      have hss : (decide (sg = sg) && decide (kp = kq)) = decide (kp = kq) := by rw [decide_eq_true rfl, Bool.true_and]
      dsimp only [gName]
      refine ⟨_, rfl, _, rfl, a, dx, _, .ref T.C_Sum, rfl, hat4, ty_sum T hN4, first_own, a, .ref b, sg, kp, rfl, hM4, hfk, .inl ⟨b, sg, kq, rfl, hN4, hfq, _, rfl, ?_⟩⟩
      refine ⟨_, rfl, _, rfl, a, dx, _, .ref T.C_Sum, rfl, hat4, ty_sum T hN4, first_own, a, .ref b, sg, kp, rfl, hM4, hfk, .inl ⟨b, sg, kq, rfl, hN4, hfq, _, rfl, ?_⟩⟩
      rw [hss]
      generalize decide (kp = kq) = e
      have wl : Wt (.list [.bool e, .bool !e]) 2 1 := Wt.list (w := 0) (k := 0) (n := 2) (fun d hd => by
        rcases List.mem_cons.mp hd with rfl | hd
        · exact Wt.bool e
        · rw [List.mem_singleton.mp hd]; exact Wt.bool !e) (by show 2 ≤ 2; decide)
      have wls := wl.shw (by decide) (by decide)
      refine ⟨by show 2 ≤ sizeLine; decide, fun L1 nL1 => ?_⟩
      refine ⟨.ref L1, .list [.bool e, .bool !e], rfl, .lst (.inl (.inl upd_same)) (.cons (.bl e) (.cons (.bl !e) .nil)), wls.s, wls.z, wls.p, ?_⟩
      have s5 := same_upd (o := .lst [V.bl e, V.bl !e]) nL1
      generalize upd H4 L1 (.lst [V.bl e, V.bl !e]) = H5 at *
      refine ⟨_, rfl, _, rfl, e, rfl, by show 2 ≤ sizeLine; decide, fun L2 nL2 => ?_⟩
      refine ⟨.ref L2, .list [.bool e, .bool !e], rfl, .lst (.inl (.inl upd_same)) (.cons (.bl e) (.cons (.bl !e) .nil)), wls.s, wls.z, wls.p, rfl, ?_⟩
      rw [decide_eq_true rfl]
      exact q _ (s04.trans (s5.trans (same_upd nL2)))
/-- what is no text of any sum over sg -/
def OddIn (K : PySem.W.Frag) (sg : List Nat) (H : Hp) (v : V) : Prop := (∃ t, v = tx t ∧ t.length ≤ 2000 ∧ (t.all fun c => decide (c ∈ sg)) = false) ∨ ∃ ty, TyX K H v ty ∧ PySem.W.kitOne K ty (.type "str") = some false
theorem odd_tx {sg : List Nat} {H : Hp} {v : V} (t : List Nat) (e : v = tx t) (hz : t.length ≤ 2000) (c : Nat) (hc : c ∈ t) (h : c ∉ sg) : OddIn K sg H v := by
  refine .inl ⟨t, e, hz, ?_⟩
  rw [← Bool.not_eq_true]
  intro z
  exact h (of_decide_eq_true (List.all_eq_true.mp z c hc))
theorem odd_ty {sg : List Nat} {H : Hp} {v : V} {ty : String} (h : TyX K H v (.type ty)) (e : kitB ty "str" = some false) : OddIn K sg H v := .inr ⟨_, h, kit_ty e⟩
theorem any_kept {ps : List M23.Pd} (h : M23.AllOk ps) (t : List Nat) : ((M23.kept ps).any fun p => (M23.runI p 0 (M23.tP t)).isSome) = ps.any fun p => (M23.runI p 0 (M23.tP t)).isSome := by
  rw [Bool.eq_iff_iff, M23.any_in, M23.any_in]
  exact M23.inS_kept h
theorem eq_nilP (ps : List M23.Pd) : PyData.eqv (dPL ps) (.list []) = ps.isEmpty := by cases ps <;> rfl
theorem any_nil (ps : List M23.Pd) : (ps.any fun p => (M23.runI p 0 (M23.tP [])).isSome) = !ps.isEmpty := by
  cases ps with
  | nil => rfl
  | cons p ps => rfl
theorem iteC {c : Bool} {σ : L2.St} {H : Hp} {Q : VK} {a b : V} (h : Q (if c = true then a else b) H) : if c = true then tC a σ H Q else tC b σ H Q := by
  cases c with
  | true => exact h
  | false => exact h
def spInR (K : PySem.W.Frag) (C : Addr) : Sp := fun vs H Q _ => ∃ (sg : List Nat) (a l : Addr) (bs : List AP), vs = [tx sg, .ref a, .ref l] ∧ Made C K H a sg (bs.map Prod.snd) ∧ 121 ∉ sg ∧ SqL K H l (rfs bs) ∧ Prods K H bs ∧ ∀ H', Same H H' → Q (.bl true) H'
theorem ok_law_in_right (T : All K mg) : FnOkG P w K mg base CX0 10 T.f_law_in_right T.d_law_in_right ["_law_signs_here", "_law_made", "_law_some_here"] (spInR K T.C_Sum) := by
  refine okG T.law_in_right.F sc_law_in_right (fun vs H Q E h => ?_) (fun cdv A outer s H vs Q E hr hG h => ?_)
  · obtain ⟨sg, a, l, bs, rfl, _⟩ := h
    rfl
  · obtain ⟨sg, a, l, bs, rfl, hM, hy, hS, hP, q⟩ := h
    refine ⟨_, pss_cons (ps_for PassesOwn.never rfl (pi_list (pe_call (ok_law_texts T) (hr.mono (by decide)) (by rfl) T.law_texts.g T.law_texts.F.kp T.law_texts.b .nil pass0 (pa_cons (pv 0) (pa_cons (pe_ifExp (pt_cmpR op_gt (pe_callB call_lenT (by rfl) T.b_len PySem.boot_len (pa_cons (pv 0) pa_nil)) pe_int (nomark _)) pe_int pe_int) pa_nil)))) (pg_name (i := 3) sc_law_in_right.nd rfl (by first | exact Or.inl rfl | exact Or.inr rfl))
        (pss_one (ps_if (pt_cmpR op_ne (pe_callB (call_reprD hr hG) (by rfl) T.b_repr (by decide +kernel) (pa_cons (pe_cmpR (op_inOwn (FnOkG.of (ok_Sum_contains T)) (hr.mono (by decide)) hG T.Sum_contains.b T.Sum_contains.m) (pv 3) (pv 1) (by rfl)) pa_nil)) (pe_callB (call_reprD hr hG) (by rfl) T.b_repr (by decide +kernel) (pa_cons (pe_call (ok_law_has T) (hr.mono (by decide)) (by rfl) T.law_has.g T.law_has.F.kp T.law_has.b .nil pass0 (pa_cons (pv 2) (pa_cons (pv 3) pa_nil))) pa_nil)) (nomark _)) (pss_one (ps_ret pe_bl)) pss_nil)))
      (pss_cons (ps_set (i := 4) sc_law_in_right.nd rfl (by first | exact Or.inl rfl | exact Or.inr rfl) (pe_lst (pa_cons pe_non (pa_cons pe_int (pa_cons pe_bl (pa_cons pe_str (pa_cons pe_str (pa_cons (pe_op op_addT (pe_ix ix_tx (pv 0) pe_int (fun _ _ => rfl)) pe_str) (pa_cons pe_str (pa_cons pe_str (pa_cons (pe_op op_addT (pv 0) pe_str) (pa_cons (pe_lst (pa_cons pe_str pa_nil)) (pa_cons (pe_tup (pa_cons pe_str pa_nil)) (pa_cons (pe_tup pa_nil) (pa_cons (pe_lst pa_nil) (pa_cons pe_dnewK (pa_cons (pv 1) pa_nil)))))))))))))))))
      (pss_cons (ps_expr (pe_bm PySem.F.plainAttrs_list PySem.F.slot_list_append PySem.F.type_list_append mt_append (pv 4) (pa_cons (pe_callTy call_tuple_of (by rfl) T.b_tuple (show bootBuiltins "tuple" = some (.type "tuple") by decide +kernel) (pa_cons (pv 2) pa_nil)) pa_nil)))
      (pss_one (ps_ret (pe_and (pe_not (pe_callB (cr_any rfl) (by rfl) T.b_any PyProof.Rows.boot_any (pa_cons (pe_lc (own := [("_law_value", 5)]) (g := gName 5) (tt := tYes) rfl sc_law_in_right.nd (pi_list (pv 4))
          (blkOk_by (own := [("_law_value", 5)]) (N := ["_law_signs_here", "_law_made", "_law_some_here", "_law_text", "_law_odd", "_law_value"]) (sc := defScope s_law_in_right) (by decide +kernel))
          (fun _ _ _ _ _ => pg_name (i := 5) sc_law_in_right.nd rfl (by first | exact Or.inl rfl | exact Or.inr rfl)) (fun _ _ _ _ _ => pts_nil)
          (fun _ _ _ _ _ => (pe_cmpR (op_inOwn (FnOkG.of (ok_Sum_contains T)) (hr.mono (by decide)) hG T.Sum_contains.b T.Sum_contains.m) (pv 5) (pv 1) (by rfl)))) pa_nil)))
        (pe_one (pe_cmpR op_eq (pe_cmpR (op_inOwn (FnOkG.of (ok_Sum_contains T)) (hr.mono (by decide)) hG T.Sum_contains.b T.Sum_contains.m) pe_str (pv 1) (by rfl)) (pe_cmpR (op_neD (u64 hr)) (pv 2) (pe_lst pa_nil) (by rfl)) (by rfl)))))))), ?_⟩
    dsimp only [cxOf]
    have hl := hM.lets
    have hfk := hM.fewK
    have hMs := hM.sum
    have hsl := hl.few
    have hok : M23.AllOk (bs.map Prod.snd) := fun p hp x hx => (hM.ok p hp x hx).ok hl
    have hak := any_kept hok
    have hsize : sizeLine = 16777216 := sizeLine_eq
    have hbz : bs.length ≤ 20 := by have := hM.few; rw [List.length_map] at this; exact this
    have hB : Bun K H (.ref l) (bs.map Prod.snd) := ⟨bs, ⟨l, rfl, .inl hS⟩, rfl, hP⟩
    have hAs : Asked (bs.map Prod.snd) := ⟨hM.few, fun p hp => ⟨Nat.le_trans (hM.len p hp) (by decide), fun y hy => ⟨(hM.ok p hp y hy).ok hl, Nat.le_trans ((hM.ok p hp y hy).len hl) (by decide)⟩⟩⟩
    have wpl : Wt (dPL (bs.map Prod.snd)) (221 * 20) 2 := wt_dPL ⟨hM.few, fun p hp => ⟨hM.len p hp, fun y hy => (hM.ok p hp y hy).tx hl⟩⟩
    generalize M23.kept (bs.map Prod.snd) = kp at *
    have hno : ∀ c, c < 97 ∨ 122 < c → c ∉ sg := fun c h hc => by have := hl.az c hc; omega
    obtain ⟨c0, hc0⟩ : ∃ c, sg[0]? = some c := ⟨sg[0]'hl.ne, List.getElem?_eq_getElem hl.ne⟩
    have wb : ∀ b : Bool, Wt (.bool b) 0 0 := Wt.bool
    have hD0 : ∃ dx t, H a = some (.ins T.C_Sum dx [("own_letters", tx sg), ("own_products", .ref t)]) := by obtain ⟨dx, t, h, _⟩ := hMs.at_; exact ⟨dx, t, h⟩
    refine ⟨_, rfl, _, rfl, sg, rfl, by omega, _, _, rfl, rfl, _, rfl, ?_⟩
    refine iteC ?_
    have hn : ∃ n : Nat, n ≤ 4 ∧ (if decide ((2 : Int) < (sg.length : Int)) = true then V.int 3 else V.int 4) = V.int (n : Int) := by
      split
      · exact ⟨3, by decide, rfl⟩
      · exact ⟨4, by decide, rfl⟩
    obtain ⟨n, hn4, hne⟩ := hn
    rw [hne]
    refine ⟨sg, n, rfl, hl, hn4, fun H1 p ts s1 np hp hts hzl => ?_⟩
    refine ⟨p, rfl, ⟨_, .inl (.inl hp)⟩, ?_⟩
    refine for_it (walk_list (xs := ts.map tx)) (fun j σ H' => ∃ g3, σ = [some (tx sg), some (.ref a), some (.ref l), g3, none, none] ∧ Same H1 H') ⟨none, rfl, Same.refl _⟩ (fun j σ H' _ pp => by obtain ⟨_, _, h⟩ := pp; exact .inl (.inl (h _ _ hp))) (fun j x σ H2 H3 hj pp yy => ?_) (fun σ H2 pp => ?_)
    · obtain ⟨g3, rfl, s2⟩ := pp
      obtain ⟨rfl, yy⟩ := yy
      rw [List.getElem?_map] at yy
      obtain ⟨t, ht, rfl⟩ := Option.map_eq_some_iff.mp yy
      obtain ⟨hto, htl⟩ := hts t (List.mem_of_getElem? ht)
      have s12 := s1.trans s2
      have hM2 := hMs.same s12
      obtain ⟨dx, t0, hat, hdt⟩ := hM2.at_
      have hall : (t.all fun c => decide (c ∈ sg)) = true := List.all_eq_true.mpr fun c hc => decide_eq_true (hto c hc)
      refine ⟨_, rfl, _, rfl, a, dx, _, rfl, hat, a, tx t, sg, kp, rfl, hM2, hfk, .inl ⟨t, rfl, by omega, fun H4 s4 => ⟨_, rfl, ?_⟩⟩⟩
      rw [hall, Bool.true_and, hak]
      generalize hbb : ((bs.map Prod.snd).any fun p => (M23.runI p 0 (M23.tP t)).isSome) = bb
      have wbb := (wb bb).shw (by decide) (by decide)
      refine ⟨_, .bool bb, rfl, .bl bb, wbb.s, wbb.z, wbb.p, ?_⟩
      have s14 := s12.trans s4
      refine ⟨_, rfl, _, rfl, .ref l, bs.map Prod.snd, t, rfl, hB.same s14, hAs, by omega, fun c hc => by have := hl.az c (hto c hc); omega, fun H5 s5 => ?_⟩
      rw [hbb]
      refine ⟨_, .bool bb, rfl, .bl bb, wbb.s, wbb.z, wbb.p, rfl, _, rfl, ite_f (by simp) ⟨_, rfl, s2.trans (s4.trans s5)⟩⟩
    · obtain ⟨g3, rfl, s2⟩ := pp
      have s12 := s1.trans s2
      have hy0 : c0 ∈ sg := List.mem_of_getElem? hc0
      refine ⟨_, rfl, sg, 0, c0, rfl, rfl, by omega, hc0, [c0], [121], rfl, rfl, by show 1 + 1 ≤ sizeLine; decide, ?_⟩
      refine ⟨_, rfl, sg, [42], rfl, rfl, by show sg.length + 1 ≤ sizeLine; omega, ?_⟩
      refine ⟨by show 1 ≤ sizeLine; decide, fun o1 n1 => ?_⟩
      have t1 := same_upd (o := .lst [V.str (Str.ofString "a")]) n1
      have h1 := upd_same (H := H2) (a := o1) (o := .lst [V.str (Str.ofString "a")])
      generalize upd H2 o1 (.lst [V.str (Str.ofString "a")]) = G1 at *
      refine ⟨by show 1 ≤ sizeLine; decide, fun o2 n2 => ?_⟩
      have t2 := same_upd (o := .tup [V.str (Str.ofString "a")]) n2
      have h2 := upd_same (H := G1) (a := o2) (o := .tup [V.str (Str.ofString "a")])
      have h12 := t2 _ _ h1
      generalize upd G1 o2 (.tup [V.str (Str.ofString "a")]) = G2 at *
      refine ⟨by show 0 ≤ sizeLine; decide, fun o3 n3 => ?_⟩
      have t3 := same_upd (o := .tup []) n3
      have h3 := upd_same (H := G2) (a := o3) (o := .tup [])
      have h13 := t3 _ _ h12
      have h23 := t3 _ _ h2
      generalize upd G2 o3 (.tup []) = G3 at *
      refine ⟨by show 0 ≤ sizeLine; decide, fun o4 n4 => ?_⟩
      have t4 := same_upd (o := .lst []) n4
      have h4 := upd_same (H := G3) (a := o4) (o := .lst [])
      have h14 := t4 _ _ h13
      have h24 := t4 _ _ h23
      have h34 := t4 _ _ h3
      generalize upd G3 o4 (.lst []) = G4 at *
      intro o5 n5
      have t5 := same_upd (o := .dK []) n5
      have h5 := upd_same (H := G4) (a := o5) (o := .dK [])
      have h15 := t5 _ _ h14
      have h25 := t5 _ _ h24
      have h35 := t5 _ _ h34
      have h45 := t5 _ _ h4
      have s5 := s12.trans (t1.trans (t2.trans (t3.trans (t4.trans t5))))
      generalize upd G4 o5 (.dK []) = G5 at *
      clear h1 h2 h3 h4 h12 h13 h14 h23 h24 h34 t1 t2 t3 t4 t5 n1 n2 n3 n4 n5
      refine ⟨_, rfl, by show 15 ≤ sizeLine; decide, fun O nO => ?_⟩
      obtain ⟨L, hLd⟩ : ∃ L : List V, L = [V.non, V.int 0, V.bl true, V.str (Str.ofString "y"), V.str (Str.ofString "A"), tx ([c0] ++ [121]), V.str (Str.ofString "a b"), V.str (Str.ofString "*"), tx (sg ++ [42]), V.ref o1, V.ref o2, V.ref o3, V.ref o4, V.ref o5, V.ref a] := ⟨_, rfl⟩
      rw [← hLd]
      have hLl : L.length = 15 := by rw [hLd]; rfl
      have sO := same_upd (o := .lst L) nO
      have hO := upd_same (H := G5) (a := O) (o := .lst L)
      have nO0 := s5.free nO
      have k1 := sO _ _ h15
      have k2 := sO _ _ h25
      have k3 := sO _ _ h35
      have k4 := sO _ _ h45
      have k5 := sO _ _ h5
      have m1 : o1 ≠ O := ne_of_none h15 nO
      have m4 : o4 ≠ O := ne_of_none h45 nO
      have m5 : o5 ≠ O := ne_of_none h5 nO
      have s6 := s5.trans sO
      show gName 4 (.ref O) _ (upd G5 O (.lst L)) _
      generalize upd G5 O (.lst L) = G6 at *
      clear h15 h25 h35 h45 h5 sO nO s5
      refine ⟨_, rfl, .inl ⟨rfl, _, .inl (.inl hO)⟩, _, rfl, l, rfs bs, rfl, .inl ⟨sq_same hS s6, fun oT nT => ?_⟩⟩
      have sT := same_upd (o := .tup (rfs bs)) nT
      have hT := upd_same (H := G6) (a := oT) (o := .tup (rfs bs))
      have hO7 := sT _ _ hO
      have k1 := sT _ _ k1
      have k2 := sT _ _ k2
      have k3 := sT _ _ k3
      have k4 := sT _ _ k4
      have k5 := sT _ _ k5
      have s7 := s6.trans sT
      generalize upd G6 oT (.tup (rfs bs)) = G7 at *
      refine ⟨O, _, _, rfl, rfl, hO7, by omega, ?_⟩
      have s8 : Same H (upd G7 O (.lst (L ++ [V.ref oT]))) := same_up s7 nO0
      have hO8 := upd_same (H := G7) (a := O) (o := .lst (L ++ [V.ref oT]))
      have k1 : upd G7 O (.lst (L ++ [V.ref oT])) o1 = some (.lst [V.str (Str.ofString "a")]) := by rw [upd_ne m1]; exact k1
      have k2 : upd G7 O (.lst (L ++ [V.ref oT])) o2 = some (.tup [V.str (Str.ofString "a")]) := up_tup hO7 k2
      have k3 : upd G7 O (.lst (L ++ [V.ref oT])) o3 = some (.tup []) := up_tup hO7 k3
      have k4 : upd G7 O (.lst (L ++ [V.ref oT])) o4 = some (.lst []) := by rw [upd_ne m4]; exact k4
      have k5 : upd G7 O (.lst (L ++ [V.ref oT])) o5 = some (.dK []) := by rw [upd_ne m5]; exact k5
      have kT : upd G7 O (.lst (L ++ [V.ref oT])) oT = some (.tup (rfs bs)) := up_tup hO7 hT
      generalize upd G7 O (.lst (L ++ [V.ref oT])) = G8 at *
      clear hT hO7 hO s7 s6 sT m1 m4 m5
      have hodd : ∀ H', Same G8 H' → ∀ v ∈ L ++ [V.ref oT], OddIn K sg H' v := fun H' sh v hv => by
        rcases List.mem_append.mp hv with hv | hv
        · rw [hLd] at hv
          rcases List.mem_cons.mp hv with rfl | hv
          · exact odd_ty (.base .non) (by decide +kernel)
          rcases List.mem_cons.mp hv with rfl | hv
          · exact odd_ty (.base (.int _)) (by decide +kernel)
          rcases List.mem_cons.mp hv with rfl | hv
          · exact odd_ty (.base (.bl _)) (by decide +kernel)
          rcases List.mem_cons.mp hv with rfl | hv
          · exact odd_tx [121] rfl (by decide) 121 List.mem_cons_self hy
          rcases List.mem_cons.mp hv with rfl | hv
          · exact odd_tx [65] rfl (by decide) 65 List.mem_cons_self (hno 65 (.inl (by decide)))
          rcases List.mem_cons.mp hv with rfl | hv
          · exact odd_tx ([c0] ++ [121]) rfl (by show 2 ≤ 2000; decide) 121 (by simp) hy
          rcases List.mem_cons.mp hv with rfl | hv
          · exact odd_tx [97, 32, 98] rfl (by decide) 32 (by simp) (hno 32 (.inl (by decide)))
          rcases List.mem_cons.mp hv with rfl | hv
          · exact odd_tx [42] rfl (by decide) 42 List.mem_cons_self (hno 42 (.inl (by decide)))
          rcases List.mem_cons.mp hv with rfl | hv
          · exact odd_tx (sg ++ [42]) rfl (by rw [List.length_append, List.length_singleton]; omega) 42 (by simp) (hno 42 (.inl (by decide)))
          rcases List.mem_cons.mp hv with rfl | hv
          · exact odd_ty (.base (.lst (sh _ _ k1))) (by decide +kernel)
          rcases List.mem_cons.mp hv with rfl | hv
          · exact odd_ty (.base (.tup (sh _ _ k2))) (by decide +kernel)
          rcases List.mem_cons.mp hv with rfl | hv
          · exact odd_ty (.base (.tup (sh _ _ k3))) (by decide +kernel)
          rcases List.mem_cons.mp hv with rfl | hv
          · exact odd_ty (.base (.lst (sh _ _ k4))) (by decide +kernel)
          rcases List.mem_cons.mp hv with rfl | hv
          · exact odd_ty (.base (.dK (sh _ _ k5))) (by decide +kernel)
          · rw [List.mem_singleton.mp hv]
            exact .inr ⟨_, ty_sum T ((hMs.same s8).same sh), kit_nostr T⟩
        · rw [List.mem_singleton.mp hv]
          exact odd_ty (.base (.tup (sh _ _ kT))) (by decide +kernel)
      have hLl2 : (L ++ [V.ref oT]).length = 16 := by rw [List.length_append, hLl]; rfl
      generalize L ++ [V.ref oT] = LL at *
      clear hLd hLl k1 k2 k3 k4 k5 kT
      refine ⟨_, rfl, O, rfl, ⟨_, .inl (.inl hO8)⟩, fun D nD => ?_⟩
      refine lc_gen (walk_list (xs := LL)) (Same G8) (fun i acc => acc = List.replicate i (.bl false)) (sz (by omega)) (fun i acc e => by rw [e, List.length_replicate]; exact Nat.le_refl _) rfl (same_upd nD) (fun _ _ h => same_up h nD) (fun _ h => .inl (.inl (h _ _ hO8))) (fun i x G9 G10 acc C N hi r hD ha yy cc nn => ?_) (fun G9 xs r hD ha => ?_)
      · obtain ⟨rfl, yy⟩ := yy
        have hv := hodd _ r x (List.mem_of_getElem? yy)
        have hM9 := hMs.same (s8.trans r)
        obtain ⟨dx, t0, hat, hdt⟩ := hM9.at_
        refine ⟨rfl, yes_te ⟨_, rfl, _, rfl, a, dx, _, rfl, hat, a, x, sg, kp, rfl, hM9, hfk, ?_⟩⟩
        have e1 : acc ++ [V.bl false] = List.replicate (i + 1) (V.bl false) := by rw [ha, List.replicate_succ']
        rcases hv with ⟨t, rfl, hz, hall⟩ | ⟨ty, h1, h2⟩
        · refine .inl ⟨t, rfl, hz, fun H' s' => ⟨_, rfl, ?_⟩⟩
          rw [hall, Bool.false_and]
          exact cc _ _ (r.trans s') (s' _ _ hD) e1
        · exact .inr ⟨ty, h1, h2, _, rfl, cc _ _ r hD e1⟩
      · subst ha
        refine ⟨D, List.replicate LL.length false, rfl, .inl (.inl (by rw [hD, List.map_replicate])), ?_⟩
        have ef : (List.replicate LL.length false).any id = false := by rw [hLl2]; rfl
        rw [ef]
        refine ⟨_, rfl, _, rfl, ite_t rfl ?_⟩
        have s9 := s8.trans r
        have hM9 := hMs.same s9
        obtain ⟨dx, t0, hat, hdt⟩ := hM9.at_
        refine ⟨_, rfl, a, dx, _, rfl, hat, a, tx [], sg, kp, rfl, hM9, hfk, .inl ⟨[], rfl, Nat.zero_le _, fun H' s' => ⟨_, rfl, ?_⟩⟩⟩
        rw [hak, any_nil]
        have s10 := s9.trans s'
        refine ⟨_, rfl, by show 0 ≤ sizeLine; decide, fun E0' nE => ?_⟩
        have sE := same_upd (o := .lst []) nE
        have hdl : Dp K (upd H' E0' (.lst [])) (.ref l) (dPL (bs.map Prod.snd)) := by
          have := aps_dp (hP.same (s10.trans sE))
          exact .lst (sq_same hS (s10.trans sE)) this
        refine ⟨_, _, hdl, .lst (.inl (.inl upd_same)) .nil, wpl.shaped (by decide), rfl, ?_⟩
        rw [eq_nilP]
        refine ⟨rfl, ?_⟩
        have ed : decide (V.bl ((([] : List Nat).all fun c => decide (c ∈ sg)) && !(bs.map Prod.snd).isEmpty) = V.bl !(bs.map Prod.snd).isEmpty) = true := decide_eq_true rfl
        rw [ed]
        exact q _ (s10.trans sE)
end
end Lw
namespace L3
open PySem PySem.Spec PyProof.Rows L2
theorem coll_txt {prog : Program} {w : World} {A : Around} {E : Value → Shared → Prop} {s : Shared} {zx : Str} {t : Tok} {R : List Value → Shared → Prop} (hh : A.handled = none) (hn : zx.cps.size ≤ sizeLine)
    (q : ∀ (h' : Heap) (tk : Nat) (acc : Array Value), (∀ b o, s.heap.get? b = some o → h'.get? b = some o) → s.heap.objs.size ≤ h'.objs.size → ItemsOf (SignAt zx) acc zx.cps.size → R acc.toList { s with heap := h', toks := tk }) : wpAny (model prog w) A (collect (.str zx t)) R E s := by
  have new : (s.heap.push { cls := .type "list", data := .seq ([] : List Value).toArray }).get? s.heap.objs.size = some { cls := .type "list", data := .seq #[] } := Heap.get?_push_size _ rfl
  unfold collect
  refine wpAny_bind (wpAny_runValue (codeAny_builtin entry_proto_collect' ?_))
  rw [Around.under_plainId PySem.F.plain_proto_collect _]
  show wpAny _ A.in1 (newList [] >>= fun l => again (.builtin "list.__iadd__" ⟨[l, .str zx t], []⟩)) _ _ s
  refine wpAny_bind (wpAny_newObj_type (wpAny_pure ⟨plainId_quiet PySem.F.plain_list_iadd _, codeAny_builtin entry_list_iadd' ?_⟩))
  rw [Around.under_plainId PySem.F.plain_list_iadd _]
  show wpAny _ A.in1 (Builtin.List.listExtendWith (.ref s.heap.objs.size) (.str zx t) (.ref s.heap.objs.size)) _ _ _
  refine wpAny_mono (wpAny_extend_str (A := A) (s := { s with heap := s.heap.push { cls := .type "list", data := .seq ([] : List Value).toArray } })
    (R := fun (z : Result) (s' : Shared) => ∃ (h' : Heap) (tk : Nat) (acc : Array Value) (c : Nat), z = .ok (.ret (.ref s.heap.objs.size)) ∧ s' = { s with heap := h', toks := tk } ∧ (∀ b o, s.heap.get? b = some o → h'.get? b = some o) ∧
      h'.get? s.heap.objs.size = some { cls := .type "list", dict := none, data := .seq acc c, slots := #[] } ∧ ItemsOf (SignAt zx) acc zx.cps.size)
    hh zx t s.heap.objs.size (.ref s.heap.objs.size) 0 new
    (fun h' tk acc c k hS ha => ⟨h', tk, acc, c, rfl, rfl, fun b o e => k b o (Nat.ne_of_lt (Heap.lt_size e)) (Heap.get?_push_of_some _ e), hS, ha⟩) hn) (fun fin s' x => ?_) fun e s' x => ?_
  · have fin_ : ∀ s2 : Shared, (∃ (h' : Heap) (tk : Nat) (acc : Array Value) (c : Nat), s2 = { s with heap := h', toks := tk } ∧ (∀ b o, s.heap.get? b = some o → h'.get? b = some o) ∧ h'.get? s.heap.objs.size = some { cls := .type "list", dict := none, data := .seq acc c, slots := #[] } ∧ ItemsOf (SignAt zx) acc zx.cps.size) →
        wpAny (model prog w) A (load s.heap.objs.size >>= fun o => match o.data with | .seq xs _ => pure xs.toList | _ => unsupported "internal:collect") R E s2 := fun s2 ⟨h', tk, acc, c, e, k, hS, ha⟩ => by
      subst e
      exact wpAny_bind (wpAny_load hS (wpAny_pure (q h' tk acc k (Nat.le_of_lt (Heap.lt_size hS)) ha)))
    cases fin with
    | done f =>
      obtain ⟨h', tk, acc, c, e, y⟩ := x
      cases e
      exact fin_ _ ⟨h', tk, acc, c, y⟩
    | again c' =>
      refine ⟨x.1, codeAny_mono x.2 fun z s2 y => ?_⟩
      obtain ⟨h', tk, acc, c, rfl, y⟩ := y
      exact fin_ _ ⟨h', tk, acc, c, y⟩
  · obtain ⟨_, _, _, _, e', _⟩ := x
    cases e'
theorem signs_are : ∀ (l : List Value) (cs : List Nat), l.length = cs.length → (∀ (j : Nat) (v : Value), l[j]? = some v → ∃ (c : Nat) (u : Tok), cs[j]? = some c ∧ v = Value.str ⟨#[c]⟩ u) → StrsAre l (cs.map fun c => (⟨#[c]⟩ : Str))
  | [], [], _, _ => .nil
  | [], _ :: _, h, _ => by cases h
  | _ :: _, [], h, _ => by cases h
  | v :: l, c :: cs, h, q => by
    obtain ⟨c', u, e1, e2⟩ := q 0 v rfl
    cases e1
    rw [e2]
    exact .cons _ _ (signs_are l cs (Nat.succ.inj h) fun j v' e => q (j + 1) v' e)
section
variable {prog : Program} {w : World} {A : Around} {E : Value → Shared → Prop} {s : Shared}
theorem sorted_txt {x : Str} {t : Tok} {Q : Value → Shared → Prop} (hh : A.handled = none) (hn : x.cps.size ≤ sizeLine)
    (h : ∀ (h2 : Heap) (tk : Nat) (a : Addr) (e : Nat) (out : Array Value) (ss : List Str), StrsAre out.toList ss → ss.Perm (x.cps.toList.map fun c => (⟨#[c]⟩ : Str)) → sortedS ss = true → (∀ b o', s.heap.get? b = some o' → h2.get? b = some o') → s.heap.objs.size ≤ a → h2.get? a = some (seqObj "list" out e) → Q (.ref a) { s with heap := h2, toks := tk }) :
    wpAny (model prog w) A (call (.builtin "sorted") [.str x t]) Q E s := by
  refine Calls.call_function_entry kind_sorted plain_sorted entry_sorted (args_sorted1 _) ?_
  unfold Builtin.«sorted»
  refine wpAny_bind (m := checkCount "sorted" 1 1 _) (wpAny_pure ?_)
  refine wpAny_bind (coll_txt (A := A.in1) hh hn (fun h' tk acc kh hsize ha => ?_))
  have hS : StrsAre acc.toList (x.cps.toList.map fun c => (⟨#[c]⟩ : Str)) := signs_are _ _ (by rw [Array.length_toList, ha.1, Array.length_toList]) fun j v e => by
    rw [Array.getElem?_toList] at e
    obtain ⟨c, u, h1, h2⟩ := ha.2 j v e
    exact ⟨c, u, by rw [Array.getElem?_toList]; exact h1, h2⟩
  have hL : acc.toList.length ≤ sizeLine := by rw [Array.length_toList, ha.1]; exact hn
  refine wpAny_bind (wpAny_newList ?_)
  have hoL : (h'.push (seqObj "list" acc.toList.toArray 0)).get? h'.objs.size = some (seqObj "list" acc.toList.toArray 0) := Heap.get?_push_size _ rfl
  show wpAny _ _ _ _ _ { s with heap := h'.push (seqObj "list" acc.toList.toArray 0), toks := tk }
  refine wpAny_bind (wpAny_holding (wpAny_call_entry slot_list_sort ⟨_, hoL, rfl⟩ entry_list_sort (list_sort_treeKAny strKind_oneLt hoL hS.keysOf (fun v₁ v₂ rest e => keyKind_strs (by rw [← e]; exact hS)) hL fun st' a1 a2 => ⟨_, rfl, ?_⟩) (args_list_sort _)))
  obtain ⟨e, he⟩ := sortedHeap_at (out := (arrOf st').map (·.2)) hoL
  obtain ⟨ss', h1, h2', h3⟩ := sorted_out_str hS a1 a2
  refine wpAny_pure ⟨_, rfl, h _ _ _ e _ ss' h1 h2' h3 (fun b o' hb => ?_) hsize he⟩
  have h1 := kh b o' hb
  have hlt := Heap.lt_size h1
  rw [sortedHeap_old (Nat.ne_of_lt hlt) (by rw [size_push']; exact Nat.lt_succ_of_lt hlt), Heap.get?_push_ne _ _ _ (Nat.ne_of_lt hlt)]
  exact h1
end
section
variable {X : Cx}
/-- sorted(text) -/
def rSortTx : List V → Hp → VK → Prop := fun vs H Q => ∃ l : List Nat, vs = [tx l] ∧ l.length < 64 ∧ ∀ (ys : List Str) (p : Addr), ys.Perm (l.map fun c => tS [c]) → sortedS ys = true → H p = none → Q (.ref p) (upd H p (.lst (ys.map V.str)))
theorem cr_sortTx (hc : X.calm = true) : CallR X (.builtin "sorted") rSortTx := by
  intro pins s σ H vs us Q I r h
  obtain ⟨l, rfl, h64, q⟩ := h
  obtain ⟨u, rfl, rx⟩ := vals1 r
  obtain ⟨t, rfl⟩ := rx
  have hz : (tS l).cps.size ≤ sizeLine := by show (tS l).length ≤ _; rw [tS_len]; exact small64 h64
  have e0 : ((tS l).cps.toList.map fun c => (⟨#[c]⟩ : Str)) = l.map fun c => tS [c] := by simp [tS]
  refine sorted_txt (I.ok.hd hc) hz fun h2 tk b e out ys h1 hp h3 k1 k2 k3 => ?_
  rw [e0] at hp
  have hlen : (ys.map V.str).length ≤ sizeLine := by rw [List.length_map, hp.length_eq, List.length_map]; exact small64 h64
  exact ⟨.ref _, upd H b (.lst (ys.map V.str)), I.laid (t' := tk) k1 k2 ⟨hlen, out.toList, e, vals_of_strs h1, k3⟩, rfl, q ys _ hp h3 (I.hok.fresh k2)⟩
end
end L3
namespace Lw
open PySem PySem.Spec PyProof.Rows L3
open L2 hiding del del_same del_ne
theorem sl_tupAK {X : Cx} {K : PySem.W.Frag} (h : X.K = K) : SlR X (rSlA K) := h ▸ sl_tupA
/-- C(m = w, n = v), the other way round -/
theorem kbn2 {K : PySem.W.Frag} {x qual n m : Str} {st : Stmt} {f : Addr} {fd : FuncData} (F : Fun K x qual st f fd)
    (h : ∀ (kV doc pm : Value) (an : Option Addr) (cdv ct s w v : Value), bindArgs (PySem.W.fnOf x qual (defArgs st) (defBody st) (defScope st) .none kV doc pm an cdv ct) ⟨[s], [(m, w), (n, v)]⟩ = pure [(("self" : Str), s), (n, v), (m, w)]) : KBn K fd ["self", n, m] 1 [m, n] mk2 mk2 := by
  refine ⟨fun s us ws X hl hw => ?_, mk2_rel⟩
  obtain ⟨oc, od, kV, doc, pm, an, cdv, ct, osl, rfl, lk, hcd⟩ := F.ex
  match us, ws, hl, hw with
  | [a], [w, v], _, _ => exact .of_eq (h kV doc pm an cdv ct a w v)
section
variable {P : Program} {w : World} {K : PySem.W.Frag} {mg : Str → Option Value} {base : Heap}
theorem make_go (T : All K mg) {H : Hp} {x dx : Addr} {sg : List Nat} {v : V} {qs : List M23.Pd} {Q : VK} {E : XK} (nx : H x = none) (ndx : H dx = none) (hne : dx ≠ x) (hl : Lets sg) (hB : Bun K H v qs) (hok : ∀ p ∈ qs, PdOk sg p) (hf : qs.length ≤ 20) (hz : ∀ p ∈ qs, p.length ≤ 20)
    (q : ∀ H', Same H H' → Made T.C_Sum K H' x sg qs → Q .non H') : spInit K T.C_Sum [.ref x, tx sg, v] (upd (upd H dx (.own x)) x (.ins T.C_Sum dx [])) Q E := by
  have s0 : Same H (upd (upd H dx (.own x)) x (.ins T.C_Sum dx [])) := same_up (same_upd ndx) nx
  refine ⟨x, dx, sg, v, qs, rfl, upd_same, hl, hB.same s0, hok, hf, fun p hp => Nat.le_trans (hz p hp) (by decide), fun H' keep hS => q H' (fun b o e => ?_) ⟨hS, hl, hok, hf, hz⟩⟩
  exact keep b o (s0 b o e) (ne_of_none e nx)
theorem Made.off {C : Addr} {H H' : Hp} {p a : Addr} {sg : List Nat} {ps : List M23.Pd} (h : Made C K H a sg ps) (hp : Pot H p) (o : Off p H H') : Made C K H' a sg ps := by
  obtain ⟨⟨dx, t, h1, h2⟩⟩ := h.sum
  refine ⟨⟨dx, t, o _ _ h1 (fun z => ?_), ?_⟩, h.lets, h.ok, h.few, h.len⟩
  · obtain ⟨x0, y0, ea, _⟩ := hp
    rw [z, ea] at h1
    cases h1
  · obtain ⟨bs, g1, g2, g3⟩ := dpT_at h2
    have := aps_dp (g3.off hp o)
    rw [g2] at this
    exact .tup (sqT_off hp o g1) this
theorem Made.upL {C : Addr} {H : Hp} {D a : Addr} {ys : List V} {o : HO} {sg : List Nat} {ps : List M23.Pd} (h : Made C K H a sg ps) (hD : H D = some (.lst ys)) : Made C K (upd H D o) a sg ps := by
  obtain ⟨⟨dx, t, h1, h2⟩⟩ := h.sum
  refine ⟨⟨dx, t, by rw [upd_ne (ne_of h1 hD fun z => by cases z)]; exact h1, ?_⟩, h.lets, h.ok, h.few, h.len⟩
  obtain ⟨bs, g1, g2, g3⟩ := dpT_at h2
  have := aps_dp (g3.upL (o := o) hD)
  rw [g2] at this
  exact .tup (sqT_upL hD g1) this
theorem ones : ∀ {ys : List Str} {l : List Nat}, ys.Perm (l.map fun c => tS [c]) → ∃ zs : List Nat, zs.Perm l ∧ ys = zs.map fun c => tS [c] := fun h => perm_map h rfl
theorem ones_up {zs : List Nat} (h : sortedS (zs.map fun c => tS [c]) = true) (hn : zs.Nodup) : zs.Pairwise (· < ·) := by
  have h1 := sorted_pair h
  rw [List.pairwise_map] at h1
  have h2 : zs.Pairwise fun a b => ¬ [b] < [a] := h1.imp fun z => by simpa [tS] using z
  refine (h2.and hn).imp fun {a b} z => ?_
  have h3 : ¬ b < a := fun e => z.1 (List.cons_lt_cons_iff.mpr (.inl e))
  have h4 := z.2
  omega
theorem PcOk.wide {sg zs x : List Nat} (h : PcOk sg x) (hs : ∀ c ∈ sg, c ∈ zs) : PcOk zs x := by
  rcases h with ⟨c, hc, rfl⟩ | ⟨l, h1, h2, h3, rfl⟩
  · exact .inl ⟨c, hs c hc, rfl⟩
  · exact .inr ⟨l, h1, h2, fun c hc => hs c (h3 c hc), rfl⟩
def spAgain (K : PySem.W.Frag) (C : Addr) : Sp := fun vs H Q _ => ∃ (p : Addr) (sg : List Nat) (a l : Addr) (bs : List AP), vs = [.ref p, tx sg, .ref a, .ref l] ∧ Pot H p ∧ Made C K H a sg (bs.map Prod.snd) ∧ 121 ∉ sg ∧ SqL K H l (rfs bs) ∧ l ≠ p ∧ Prods K H bs ∧ bs.length ≤ 10 ∧ (∀ b ∈ bs, b.2.length ≤ 10) ∧ (M23.kept (bs.map Prod.snd)).length ≤ 5 ∧ ∀ H', Pot H' p → Off p H H' → Q (.bl true) H'
theorem ok_law_again_right (T : All K mg) : FnOkG P w K mg base CX0 12 T.f_law_again_right T.d_law_again_right ["_law_pot_here", "_law_signs_here", "_law_made", "_law_some_here"] (spAgain K T.C_Sum) := by
  refine okG T.law_again_right.F sc_law_again_right (fun vs H Q E h => ?_) (fun cdv A outer s H vs Q E hr hG h => ?_)
  · obtain ⟨p, sg, a, l, bs, rfl, _⟩ := h
    rfl
  · obtain ⟨p, sg, a, l, bs, rfl, hp, hM, hy, hS, hlp, hP, hbz, hbl, hk5, q⟩ := h
    refine ⟨_, pss_cons (ps_set (i := 4) sc_law_again_right.nd rfl (by first | exact Or.inl rfl | exact Or.inr rfl) (pe_meth0 (pv 2) T.cl_Sum T.Sum_products.m (ok_Sum_products T) (hr.mono (by decide)) T.Sum_products.b .nil pass0))
      (pss_cons (ps_setLc (i := 5) (own := [("_law_bundle_here", 6)]) (g := gName 6) (tt := tYes) (by rfl) sc_law_again_right.nd rfl rfl (sw_true rfl rfl rfl (by decide +kernel)) (pi_list (pv 4))
          (blkOk_by (own := [("_law_bundle_here", 6)]) (N := ["_law_pot_here", "_law_signs_here", "_law_made", "_law_some_here", "_law_kept_here", "_law_more", "_law_bundle_here", "_law_again", "_law_far", "_law_value", "_law_wide"]) (sc := defScope s_law_again_right) (by decide +kernel))
          (fun _ _ _ _ _ => pg_name (i := 6) sc_law_again_right.nd rfl (by first | exact Or.inl rfl | exact Or.inr rfl)) (fun _ _ _ _ _ => pts_nil)
          (fun _ _ _ _ _ => (pe_slice (sl_tupAK (K := K) rfl) (pv 6) po_none (po_some (pe_call (ok_law_draw T) (hr.mono (by decide)) (by rfl) T.law_draw.g T.law_draw.F.kp T.law_draw.b .nil pass0 (pa_cons (pv 0) (pa_cons (pe_op op_add (pe_callB (call_len_seqK (K := K) rfl) (by rfl) T.b_len PySem.boot_len (pa_cons (pv 6) pa_nil)) pe_int) pa_nil)))))))
      (pss_cons (ps_set (i := 7) sc_law_again_right.nd rfl (by first | exact Or.inl rfl | exact Or.inr rfl) (pe_lst (pa_cons (pe_make ⟨T.mk_Sum, T.Sum_init.m.at_, T.Sum_init.m.fn, T.kp_Sum⟩ (ok_Sum_init T) (hr.mono (by decide)) (by rfl) T.g_Sum T.Sum_init.b .nil pass0 (pa_cons (pv 1) (pa_cons (pe_revL (pv 4)) pa_nil))) (pa_cons (pe_makeK0 ⟨T.mk_Sum, T.Sum_init.m.at_, T.Sum_init.m.fn, T.kp_Sum⟩ (ok_Sum_init T) (hr.mono (by decide)) (by rfl) T.g_Sum (kbn2 (n := "letters") (m := "products") T.Sum_init.F (fun _ _ _ _ _ _ _ _ _ => rfl)) pass0 (pk_cons (pe_callTy call_tuple_of (by rfl) T.b_tuple (show bootBuiltins "tuple" = some (.type "tuple") by decide +kernel) (pa_cons (pv 4) pa_nil)) (pk_cons (pv 1) pk_nil))) (pa_cons (pe_make ⟨T.mk_Sum, T.Sum_init.m.at_, T.Sum_init.m.fn, T.kp_Sum⟩ (ok_Sum_init T) (hr.mono (by decide)) (by rfl) T.g_Sum T.Sum_init.b .nil pass0 (pa_cons (pv 1) (pa_cons (pe_call (ok_law_mixed T) (hr.mono (by decide)) (by rfl) T.law_mixed.g T.law_mixed.F.kp T.law_mixed.b .nil pass0 (pa_cons (pv 0) (pa_cons (pe_op op_cat (pv 4) (pv 5)) pa_nil))) pa_nil))) pa_nil)))))
      (pss_cons (ps_expr (pe_bm PySem.F.plainAttrs_list PySem.F.slot_list_append PySem.F.type_list_append mt_append (pv 7) (pa_cons (pe_make ⟨T.mk_Sum, T.Sum_init.m.at_, T.Sum_init.m.fn, T.kp_Sum⟩ (ok_Sum_init T) (hr.mono (by decide)) (by rfl) T.g_Sum T.Sum_init.b .nil pass0 (pa_cons (pv 1) (pa_cons (pe_lc (own := [("_law_bundle_here", 6)]) (g := gName 6) (tt := tYes) rfl sc_law_again_right.nd (pi_list (pe_call (ok_law_mixed T) (hr.mono (by decide)) (by rfl) T.law_mixed.g T.law_mixed.F.kp T.law_mixed.b .nil pass0 (pa_cons (pv 0) (pa_cons (pv 3) pa_nil))))
          (blkOk_by (own := [("_law_bundle_here", 6)]) (N := ["_law_pot_here", "_law_signs_here", "_law_made", "_law_some_here", "_law_kept_here", "_law_more", "_law_bundle_here", "_law_again", "_law_far", "_law_value", "_law_wide"]) (sc := defScope s_law_again_right) (by decide +kernel))
          (fun _ _ _ _ _ => pg_name (i := 6) sc_law_again_right.nd rfl (by first | exact Or.inl rfl | exact Or.inr rfl)) (fun _ _ _ _ _ => pts_nil)
          (fun _ _ _ _ _ => (pe_call (ok_law_padded T) (hr.mono (by decide)) (by rfl) T.law_padded.g T.law_padded.F.kp T.law_padded.b .nil pass0 (pa_cons (pv 0) (pa_cons (pv 6) pa_nil))))) pa_nil))) pa_nil)))
      (pss_cons (ps_if (pt_not (pt_val (pe_callB (cr_all rfl) (by rfl) T.b_all PyProof.Rows.boot_all (pa_cons (pe_lc (own := [("_law_far", 8)]) (g := gName 8) (tt := tYes) rfl sc_law_again_right.nd (pi_list (pv 7))
          (blkOk_by (own := [("_law_far", 8)]) (N := ["_law_pot_here", "_law_signs_here", "_law_made", "_law_some_here", "_law_kept_here", "_law_more", "_law_bundle_here", "_law_again", "_law_far", "_law_value", "_law_wide"]) (sc := defScope s_law_again_right) (by decide +kernel))
          (fun _ _ _ _ _ => pg_name (i := 8) sc_law_again_right.nd rfl (by first | exact Or.inl rfl | exact Or.inr rfl)) (fun _ _ _ _ _ => pts_nil)
          (fun _ _ _ _ _ => (pe_and (pe_cmpR (op_eqOwnK (K := K) rfl (FnOkG.of (ok_Sum_eq T)) (hr.mono (by decide)) hG T.Sum_eq.b T.Sum_eq.m) (pv 2) (pv 8) (by rfl))
        (pe_and (pe_cmpR (op_eqOwnK (K := K) rfl (FnOkG.of (ok_Sum_eq T)) (hr.mono (by decide)) hG T.Sum_eq.b T.Sum_eq.m) (pv 8) (pv 2) (by rfl))
        (pe_and (pe_not (pe_cmpR (op_neOwnK (K := K) rfl (FnOkG.of (ok_Sum_eq T)) (hr.mono (by decide)) hG T.Sum_eq.b T.Sum_eq.m (mro_obj T.mk_Sum) T.ne_Sum) (pv 2) (pv 8) (by rfl)))
        (pe_one (pe_cmpR op_eq (pe_callB (cr_reprOwn (FnOkH.toG (ok_Sum_repr T)) (hr.mono (by decide)) hG T.Sum_repr.b T.Sum_repr.m) (by rfl) T.b_repr (by decide +kernel) (pa_cons (pv 8) pa_nil)) (pe_callB (cr_reprOwn (FnOkH.toG (ok_Sum_repr T)) (hr.mono (by decide)) hG T.Sum_repr.b T.Sum_repr.m) (by rfl) T.b_repr (by decide +kernel) (pa_cons (pv 2) pa_nil)) (by rfl)))))))) pa_nil)))) (pss_one (ps_ret pe_bl)) pss_nil)
      (pss_cons (ps_if (pt_val (pe_callB (cr_any rfl) (by rfl) T.b_any PyProof.Rows.boot_any (pa_cons (pe_lc (own := [("_law_value", 9)]) (g := gName 9) (tt := tYes) rfl sc_law_again_right.nd (pi_list (pe_lst (pa_cons pe_non (pa_cons pe_int (pa_cons (pv 4) (pa_cons (pe_callTy call_tuple_of (by rfl) T.b_tuple (show bootBuiltins "tuple" = some (.type "tuple") by decide +kernel) (pa_cons (pv 4) pa_nil)) (pa_cons (pe_callB (cr_reprOwn (FnOkH.toG (ok_Sum_repr T)) (hr.mono (by decide)) hG T.Sum_repr.b T.Sum_repr.m) (by rfl) T.b_repr (by decide +kernel) (pa_cons (pv 2) pa_nil)) (pa_cons pe_dnewK (pa_cons (pv 1) pa_nil)))))))))
          (blkOk_by (own := [("_law_value", 9)]) (N := ["_law_pot_here", "_law_signs_here", "_law_made", "_law_some_here", "_law_kept_here", "_law_more", "_law_bundle_here", "_law_again", "_law_far", "_law_value", "_law_wide"]) (sc := defScope s_law_again_right) (by decide +kernel))
          (fun _ _ _ _ _ => pg_name (i := 9) sc_law_again_right.nd rfl (by first | exact Or.inl rfl | exact Or.inr rfl)) (fun _ _ _ _ _ => pts_nil)
          (fun _ _ _ _ _ => (pe_cmpR (op_eqOwnK (K := K) rfl (FnOkG.of (ok_Sum_eq T)) (hr.mono (by decide)) hG T.Sum_eq.b T.Sum_eq.m) (pv 2) (pv 9) (by rfl)))) pa_nil))) (pss_one (ps_ret pe_bl)) pss_nil)
      (pss_cons (ps_set (i := 10) sc_law_again_right.nd rfl (by first | exact Or.inl rfl | exact Or.inr rfl) (pe_join pe_str (pe_callB (cr_sortTx rfl) (by rfl) T.b_sorted PyProof.Rows.boot_sorted (pa_cons (pe_op op_addT (pv 1) pe_str) pa_nil))))
      (pss_one (ps_ret (pe_or (pe_cmpR op_gt (pe_callB call_lenT (by rfl) T.b_len PySem.boot_len (pa_cons (pv 10) pa_nil)) pe_int (by rfl))
        (pe_one (pe_and (pe_cmpR (op_neOwn (FnOkG.of (ok_Sum_eq T)) (hr.mono (by decide)) hG T.Sum_eq.b T.Sum_eq.m (mro_obj T.mk_Sum) T.ne_Sum) (pv 2) (pe_make ⟨T.mk_Sum, T.Sum_init.m.at_, T.Sum_init.m.fn, T.kp_Sum⟩ (ok_Sum_init T) (hr.mono (by decide)) (by rfl) T.g_Sum T.Sum_init.b .nil pass0 (pa_cons (pv 10) (pa_cons (pv 4) pa_nil))) (by rfl))
        (pe_one (pe_cmpR (op_eqD (u64 hr)) (pe_meth0 (pe_make ⟨T.mk_Sum, T.Sum_init.m.at_, T.Sum_init.m.fn, T.kp_Sum⟩ (ok_Sum_init T) (hr.mono (by decide)) (by rfl) T.g_Sum T.Sum_init.b .nil pass0 (pa_cons (pv 10) (pa_cons (pv 4) pa_nil))) T.cl_Sum T.Sum_products.m (ok_Sum_products T) (hr.mono (by decide)) T.Sum_products.b .nil pass0) (pv 4) (by rfl)))))))))))))), ?_⟩
    dsimp only [cxOf]
    have hl := hM.lets
    have hfk := hM.fewK
    have hokK := hM.okK
    have hMs := hM.sum
    have hsize : sizeLine = 16777216 := sizeLine_eq
    have hAll : M23.AllOk (bs.map Prod.snd) := fun p hp x hx => (hM.ok p hp x hx).ok hl
    obtain ⟨kp, hkp⟩ : ∃ kp, kp = M23.kept (bs.map Prod.snd) := ⟨_, rfl⟩
    rw [← hkp] at hfk hokK hMs hk5
    obtain ⟨dx, t, hat, hdt⟩ := hMs.at_
    -- kept_here
    refine ⟨_, rfl, a, dx, _, rfl, hat, rfl, a, sg, kp, rfl, hMs, fun pk kb npk ek hPk => ?_⟩
    have napk := hp.ne npk
    have s1 := same_upd (o := .lst (rfs kb)) npk
    have hk1 := upd_same (H := H) (a := pk) (o := .lst (rfs kb))
    have hp1 := hp.up (o := .lst (rfs kb)) napk
    have o1 := Off.of (a := p) s1
    have hPk1 := hPk.same s1
    have hM1 := hM.same s1
    generalize upd H pk (.lst (rfs kb)) = H1 at *
    have hkbl : kb.length ≤ 5 := by rw [← ek, List.length_map] at hk5; exact hk5
    have hkbm : (rfs kb).length = kb.length := List.length_map _
    clear hPk npk
    dsimp only [gName]
    -- more
    refine ⟨_, rfl, pk, rfl, ⟨_, .inl (.inl hk1)⟩, fun D nD => ?_⟩
    have npD := hp1.ne nD
    have nkD : pk ≠ D := ne_of_none hk1 nD
    have nD0 := o1.free nD hp1
    refine lc_it (walk_list (xs := rfs kb)) (fun i H' => Pot H' p ∧ Off p H H' ∧ H' pk = some (.lst (rfs kb)) ∧ Prods K H' kb ∧ ∃ ms : List AP, H' D = some (.lst (rfs ms)) ∧ ms.length = i ∧ Prods K H' ms ∧ ∀ m ∈ ms, ∃ k ∈ kp, ∃ d, m.2 = k.take d)
      ⟨hp1.up npD, o1.up nD0, by rw [upd_ne nkD]; exact hk1, hPk1.same (same_upd nD), [], upd_same, rfl, (fun b h => by cases h), (fun b h => by cases h)⟩ (fun i H' _ pp => .inl (.inl pp.2.2.1)) (fun i x H2 H3 hi pp yy => ?_) (fun H2 pp => ?_)
    · obtain ⟨hp2, o2, hk2, hPk2, ms, hD2, hml, hPm, hmo⟩ := pp
      obtain ⟨rfl, yy⟩ := yy
      rw [show (rfs kb)[i]? = (kb[i]?).map fun b => V.ref b.1 from List.getElem?_map] at yy
      obtain ⟨b, hb, rfl⟩ := Option.map_eq_some_iff.mp yy
      have hbm := List.mem_of_getElem? hb
      have hbk : b.2 ∈ kp := ek ▸ List.mem_map_of_mem hbm
      have hbz := (hfk.2 _ hbk).1
      have hT := hPk2 b hbm
      have hbl : (b.2.map tx).length = b.2.length := List.length_map _
      refine ⟨rfl, yes_te ?_⟩
      refine ⟨_, rfl, _, rfl, _, rfl, b.1, _, rfl, .inr hT, _, _, rfl, rfl, p, b.2.length + 1, by rw [hbl]; push_cast; rfl, hp2, by omega, by omega, fun H4 d hd hp4 ho4 => ⟨_, rfl, ?_⟩⟩
      have hD4 := ho4 _ _ hD2 npD.symm
      refine slA_go (sqT_off hp2 ho4 hT) fun H5 c s5 hc => ?_
      rw [cutV_to] at hc
      have hD5 := s5 _ _ hD4
      have o45 := ho4.trans (Off.of s5)
      refine ⟨_, hD5, by unfold rfs; rw [List.length_map]; omega, (hp4.same s5).up npD, (o2.trans o45).up nD0, by rw [upd_ne nkD]; exact o45 _ _ hk2 napk.symm, (hPk2.off hp2 o45).upL hD5, ms ++ [(c, b.2.take d)], ?_, by rw [List.length_append, hml]; rfl, fun m hm => ?_, fun m hm => ?_⟩
      · rw [upd_same]; unfold rfs; rw [List.map_append]; rfl
      · rcases List.mem_append.mp hm with hm | hm
        · exact sqT_upL hD5 (sqT_off hp2 o45 (hPm m hm))
        · rw [List.mem_singleton.mp hm]
          refine sqT_upL hD5 ?_
          rw [← List.map_take] at hc
          exact hc
      · rcases List.mem_append.mp hm with hm | hm
        · exact hmo m hm
        · rw [List.mem_singleton.mp hm]
          exact ⟨b.2, hbk, d, rfl⟩
    · obtain ⟨hp2, o2, hk2, hPk2, ms, hD2, hml, hPm, hmo⟩ := pp
      rw [hkbm] at hml
      have hM2 := hM.off hp o2
      have hS2 : SqL K H2 l (rfs bs) := o2.seq hlp hS
      have hPb2 := hP.off hp o2
      clear hk1 hPk1 hM1 s1 hp1 o1 nD
      dsimp only [gName]
      have hokKA : M23.AllOk kp := fun q hq x hx => (hokK q hq x hx).ok hl
      have hkps : ∀ t, M23.InS kp t ↔ M23.InS (bs.map Prod.snd) t := fun t => by rw [hkp]; exact M23.inS_kept hAll
      have same : ∀ qs : List M23.Pd, (∀ q ∈ qs, PdOk sg q) → (∀ t, M23.InS qs t ↔ M23.InS kp t) → M23.kept qs = kp := fun qs hq h => by
        rw [hkp]
        exact M23.kept_eq (fun q hqm x hx => (hq q hqm x hx).ok hl) hAll fun t => (h t).trans (hkps t)
      have hkz : ∀ q ∈ kp, q.length ≤ 20 := fun q hq => (hfk.2 q hq).1
      have hkl : kp.length = kb.length := by rw [← ek, List.length_map]
      -- the first: read from the end
      refine ⟨_, rfl, _, rfl, pk, _, rfl, .inl (.inl hk2), fun r1 nr1 => ?_⟩
      have sr := same_upd (o := .lst (rfs kb).reverse) nr1
      have hr1 := upd_same (H := H2) (a := r1) (o := .lst (rfs kb).reverse)
      have hP1 := hPk2.same sr
      generalize upd H2 r1 (.lst (rfs kb).reverse) = G1 at *
      intro x1 dx1 nx1 ndx1 nxx1
      refine make_go T (qs := kp.reverse) nx1 ndx1 nxx1 hl ⟨kb.reverse, ⟨r1, rfl, .inl (.inl (.inl (by rw [hr1]; unfold rfs; rw [List.map_reverse])))⟩, by rw [List.map_reverse, ek], fun b hb => hP1 b (List.mem_reverse.mp hb)⟩ (fun q hq => hokK q (List.mem_reverse.mp hq)) (by rw [List.length_reverse]; omega) (fun q hq => hkz q (List.mem_reverse.mp hq)) fun G2 sG2 hN1 => ⟨rfl, ?_⟩
      have t02 := sr.trans sG2
      -- the second: by names
      refine ⟨_, rfl, pk, rfs kb, rfl, .inl ⟨.inl (.inl (t02 _ _ hk2)), fun r2 nr2 => ?_⟩⟩
      have sr2 := same_upd (o := .tup (rfs kb)) nr2
      have hr2 := upd_same (H := G2) (a := r2) (o := .tup (rfs kb))
      have t03 := t02.trans sr2
      have hN1 := hN1.same sr2
      generalize upd G2 r2 (.tup (rfs kb)) = G3 at *
      refine ⟨_, rfl, rfl, rfl, fun x2 dx2 nx2 ndx2 nxx2 => ?_⟩
      refine make_go T (qs := kp) nx2 ndx2 nxx2 hl ⟨kb, ⟨r2, rfl, .inr (.inl (.inl hr2))⟩, ek, hPk2.same t03⟩ hokK (by omega) hkz fun G4 sG4 hN2 => ⟨rfl, ?_⟩
      have t04 := t03.trans sG4
      have hN1 := hN1.same sG4
      -- the third: with parts
      refine ⟨_, rfl, _, rfl, _, rfl, _, rfl, pk, D, _, _, rfl, rfl, t04 _ _ hk2, t04 _ _ hD2, by unfold rfs; rw [List.length_map, List.length_map]; omega, fun r3 nr3 => ?_⟩
      have sr3 := same_upd (o := .lst (rfs kb ++ rfs ms)) nr3
      have t05 := t04.trans sr3
      have hN1 := hN1.same sr3
      have hN2 := hN2.same sr3
      have hkm : rfs kb ++ rfs ms = rfs (kb ++ ms) := by unfold rfs; rw [List.map_append]
      have hr3 : upd G4 r3 (.lst (rfs kb ++ rfs ms)) r3 = some (.lst (rfs (kb ++ ms))) := by rw [upd_same, hkm]
      generalize upd G4 r3 (.lst (rfs kb ++ rfs ms)) = G5 at *
      have hp5 := hp2.same t05
      refine ⟨p, r3, rfs (kb ++ ms), rfl, hp5, .inl (.inl (.inl hr3)), by unfold rfs; rw [List.length_map, List.length_append]; omega, fun G6 r4 l' hperm hp6 ho6 nr4 hr4 => ?_⟩
      obtain ⟨cs, hpc, rfl⟩ := perm_map (f := fun b : AP => V.ref b.1) hperm rfl
      have hN1 := hN1.off hp5 ho6
      have hN2 := hN2.off hp5 ho6
      have o26 := (Off.of t05 (a := p)).trans ho6
      have hcP : Prods K G6 cs := fun b hb => by
        rcases List.mem_append.mp (hpc.mem_iff.mp hb) with h | h
        · exact sqT_off hp2 o26 (hPk2 b h)
        · exact sqT_off hp2 o26 (hPm b h)
      have hcm : ∀ q ∈ cs.map Prod.snd, q ∈ kp ∨ ∃ k ∈ kp, ∃ d, q = k.take d := fun q hq => by
        obtain ⟨b, hb, rfl⟩ := List.mem_map.mp hq
        rcases List.mem_append.mp (hpc.mem_iff.mp hb) with h | h
        · exact .inl (ek ▸ List.mem_map_of_mem h)
        · exact .inr (hmo b h)
      have hck : ∀ q ∈ kp, q ∈ cs.map Prod.snd := fun q hq => by
        rw [← ek] at hq
        obtain ⟨b, hb, rfl⟩ := List.mem_map.mp hq
        exact List.mem_map_of_mem (hpc.mem_iff.mpr (List.mem_append_left _ hb))
      intro x3 dx3 nx3 ndx3 nxx3
      refine make_go T (qs := cs.map Prod.snd) nx3 ndx3 nxx3 hl ⟨cs, ⟨r4, rfl, .inl (.inl (.inl hr4))⟩, rfl, hcP⟩ (fun q hq => ?_) (by rw [List.length_map, hpc.length_eq, List.length_append]; omega) (fun q hq => ?_) fun G7 sG7 hN3 => ⟨rfl, ?_⟩
      · rcases hcm q hq with h | ⟨k, hk, d, rfl⟩
        · exact hokK q h
        · exact fun y hy => hokK k hk y (List.mem_of_mem_take hy)
      · rcases hcm q hq with h | ⟨k, hk, d, rfl⟩
        · exact hkz q h
        · exact Nat.le_trans (by rw [List.length_take]; omega) (hkz k hk)
      have hN1 := hN1.same sG7
      have hN2 := hN2.same sG7
      have e1 : M23.kept kp.reverse = kp := same _ (fun q hq => hokK q (List.mem_reverse.mp hq)) fun t => ⟨fun ⟨q, h1, h2⟩ => ⟨q, List.mem_reverse.mp h1, h2⟩, fun ⟨q, h1, h2⟩ => ⟨q, List.mem_reverse.mpr h1, h2⟩⟩
      have e2 : M23.kept kp = kp := same _ hokK fun t => Iff.rfl
      have e3 : M23.kept (cs.map Prod.snd) = kp := same _ hN3.ok fun t => ⟨fun ⟨q, h1, h2⟩ => by
        rcases hcm q h1 with h | ⟨k, hk, d, rfl⟩
        · exact ⟨q, h, h2⟩
        · refine ⟨k, hk, h2.up ?_⟩
          have := M23.Emb.post (M23.Emb.refl (k.take d)) (k.drop d)
          have h3 : M23.Emb (k.take d) (k.take d ++ k.drop d) := by
            have := M23.Emb.pre (k.take d) (M23.Emb.nil (k.drop d))
            rwa [List.append_nil] at this
          rwa [List.take_append_drop] at h3, fun ⟨q, h1, h2⟩ => ⟨q, hck q h1, h2⟩⟩
      have o27 := o26.trans (Off.of sG7 (a := p))
      have hp7 := hp6.same sG7
      refine ⟨by show 3 ≤ sizeLine; decide, fun O nO => ?_⟩
      have sO := same_upd (o := .lst [V.ref x1, V.ref x2, V.ref x3]) nO
      have hO := upd_same (H := G7) (a := O) (o := .lst [V.ref x1, V.ref x2, V.ref x3])
      have hN1 := hN1.same sO
      have hN2 := hN2.same sO
      have hN3 := hN3.same sO
      have o28 := o27.trans (Off.of sO (a := p))
      have npO := hp7.ne nO
      have hp8 := hp7.same sO
      have nO2 := o27.free nO hp7
      generalize upd G7 O (.lst [V.ref x1, V.ref x2, V.ref x3]) = G8 at *
      have nO0 := o2.free nO2 hp2
      have o08 := o2.trans o28
      have hM8 := hM.off hp o08
      have hk8 : G8 pk = some (.lst (rfs kb)) := o28 _ _ hk2 napk.symm
      have hS8 : SqL K G8 l (rfs bs) := o08.seq hlp hS
      have hPb8 := hP.off hp o08
      have hkO : pk ≠ O := fun z => by rw [z, nO2] at hk2; cases hk2
      have hPk8 := hPk2.off hp2 o28
      clear hr1 hr2 hr3 hr4 hcP hP1 sr sr2 sr3 sG2 sG4 sG7 t02 t03 t04 t05 ho6 hp5 hp6 hp7 o26 o27 sO nO nx1 ndx1 nx2 ndx2 nx3 ndx3 nr1 nr2 nr3 nr4 hcm hck hpc hperm
      dsimp only [gName]
      refine ⟨_, rfl, .inl ⟨rfl, _, .inl (.inl hO)⟩, _, rfl, _, rfl, _, rfl, p, l, rfs bs, rfl, hp8, .inl hS8, by unfold rfs; rw [List.length_map]; omega, fun G9 r5 l5 hperm5 hp9 ho9 nr5 hr5 => ?_⟩
      obtain ⟨ds, hpd, rfl⟩ := perm_map (f := fun b : AP => V.ref b.1) hperm5 rfl
      have hN1 := hN1.off hp8 ho9
      have hN2 := hN2.off hp8 ho9
      have hN3 := hN3.off hp8 ho9
      have hM9 := hM8.off hp8 ho9
      have hO9 := ho9 _ _ hO npO.symm
      have hk9 := ho9 _ _ hk8 napk.symm
      have o09 := o08.trans ho9
      have hdP : Prods K G9 ds := fun b hb => sqT_off hp8 ho9 (hPb8 b (hpd.mem_iff.mp hb))
      have hkP9 := hPk8.off hp8 ho9
      have hdl : ds.length ≤ 10 := by rw [hpd.length_eq]; exact hbz
      have hdm : ((ds.map fun b => V.ref b.1)).length = ds.length := List.length_map _
      have npr5 : r5 ≠ p := fun z => hp8.ne nr5 z.symm
      refine ⟨r5, rfl, ⟨_, .inl (.inl hr5)⟩, fun D5 nD5 => ?_⟩
      have npD5 := hp9.ne nD5
      have nD50 := o09.free nD5 hp9
      have nOD5 : O ≠ D5 := ne_of_none hO9 nD5
      have nkD5 : pk ≠ D5 := ne_of_none hk9 nD5
      have nrD5 : r5 ≠ D5 := ne_of_none hr5 nD5
      have hD50 := upd_same (H := G9) (a := D5) (o := .lst [])
      have sD5 := same_upd (o := .lst []) nD5
      refine lc_it (walk_list (xs := ds.map fun b => V.ref b.1)) (fun i H' => Pot H' p ∧ Off p H H' ∧ H' O = some (.lst [V.ref x1, V.ref x2, V.ref x3]) ∧ H' pk = some (.lst (rfs kb)) ∧ H' r5 = some (.lst (ds.map fun b => V.ref b.1)) ∧ Prods K H' ds ∧ Prods K H' kb ∧ Made T.C_Sum K H' x1 sg kp.reverse ∧ Made T.C_Sum K H' x2 sg kp ∧ Made T.C_Sum K H' x3 sg (cs.map Prod.snd) ∧ Made T.C_Sum K H' a sg (bs.map Prod.snd) ∧
          ∃ es : List AP, H' D5 = some (.lst (rfs es)) ∧ es.length = i ∧ Prods K H' es ∧ (∀ e ∈ es, PdOk sg e.2 ∧ e.2.length ≤ 20 ∧ ∃ b ∈ ds, M23.Eqv b.2 e.2) ∧ ∀ b ∈ ds.take i, ∃ e ∈ es, M23.Eqv b.2 e.2)
        ⟨hp9.up npD5, o09.up nD50, by rw [upd_ne nOD5]; exact hO9, by rw [upd_ne nkD5]; exact hk9, by rw [upd_ne nrD5]; exact hr5, hdP.same sD5, hkP9.same sD5, hN1.same sD5, hN2.same sD5, hN3.same sD5, hM9.same sD5, [], upd_same, rfl, (fun b h => by cases h), (fun b h => by cases h), (fun b h => by simp at h)⟩ (fun i H' _ pp => .inl (.inl pp.2.2.2.2.1)) (fun i x G10 G11 hi pp yy => ?_) (fun G10 pp => ?_)
      · obtain ⟨q1, q2, q3, q4, q5, q6, q7, q8, q9, q10, q11, es, hD10, hel, hPe, heo, hec⟩ := pp
        obtain ⟨rfl, yy⟩ := yy
        rw [List.getElem?_map] at yy
        obtain ⟨b, hb, rfl⟩ := Option.map_eq_some_iff.mp yy
        have hbd := List.mem_of_getElem? hb
        have hbb : b ∈ bs := hpd.mem_iff.mp hbd
        refine ⟨rfl, yes_te ⟨_, rfl, _, rfl, p, b.1, sg, b.2, rfl, q1, hl, hM.ok _ (List.mem_map_of_mem hbb), by have := hbl b hbb; omega, q6 b hbd, fun G12 c p' hpk heq hpz hp12 ho12 hc => ?_⟩⟩
        have hD12 := ho12 _ _ hD10 npD5.symm
        refine ⟨_, hD12, by unfold rfs; rw [List.length_map]; rw [hdm] at hi; omega, hp12.up npD5, (q2.trans ho12).up nD50, by rw [upd_ne nOD5]; exact ho12 _ _ q3 npO.symm, by rw [upd_ne nkD5]; exact ho12 _ _ q4 napk.symm, by rw [upd_ne nrD5]; exact ho12 _ _ q5 npr5, (q6.off q1 ho12).upL hD12, (q7.off q1 ho12).upL hD12, (q8.off q1 ho12).upL hD12, (q9.off q1 ho12).upL hD12, (q10.off q1 ho12).upL hD12, (q11.off q1 ho12).upL hD12, es ++ [(c, p')], ?_, by rw [List.length_append, hel]; rfl, fun m hm => ?_, fun m hm => ?_, fun m hm => ?_⟩
        · rw [upd_same]; unfold rfs; rw [List.map_append]; rfl
        · rcases List.mem_append.mp hm with hm | hm
          · exact sqT_upL hD12 (sqT_off q1 ho12 (hPe m hm))
          · rw [List.mem_singleton.mp hm]
            exact sqT_upL hD12 hc
        · rcases List.mem_append.mp hm with hm | hm
          · exact heo m hm
          · rw [List.mem_singleton.mp hm]
            exact ⟨hpk, by have := hbl b hbb
                           have h2 : p'.length ≤ b.2.length + 1 := hpz
                           show p'.length ≤ 20
                           omega, b, hbd, heq⟩
        · rw [List.take_add_one, hb] at hm
          rcases List.mem_append.mp hm with hm | hm
          · obtain ⟨e, h1, h2⟩ := hec m hm
            exact ⟨e, List.mem_append_left _ h1, h2⟩
          · have : m = b := by simpa using hm
            rw [this]
            exact ⟨(c, p'), List.mem_append_right _ (List.mem_singleton.mpr rfl), heq⟩
      · obtain ⟨q1, q2, q3, q4, q5, q6, q7, q8, q9, q10, q11, es, hD10, hel, hPe, heo, hec⟩ := pp
        rw [hdm] at hel hec
        rw [List.take_length] at hec
        clear hN1 hN2 hN3 hM9 hM8 hO9 hk9 hO hk8 hS8 hPb8 hPk8 hdP hkP9 hr5 sD5 hD50
        intro x4 dx4 nx4 ndx4 nxx4
        refine make_go T (qs := es.map Prod.snd) nx4 ndx4 nxx4 hl ⟨es, ⟨D5, rfl, .inl (.inl (.inl hD10))⟩, rfl, hPe⟩ (fun q hq => ?_) (by rw [List.length_map]; omega) (fun q hq => ?_) fun G11 sG11 hN4 => ⟨rfl, ?_⟩
        · obtain ⟨e, he, rfl⟩ := List.mem_map.mp hq
          exact (heo e he).1
        · obtain ⟨e, he, rfl⟩ := List.mem_map.mp hq
          exact (heo e he).2.1
        have e4 : M23.kept (es.map Prod.snd) = kp := same _ hN4.ok fun t => by
          rw [hkps t]
          constructor
          · rintro ⟨q, h1, h2⟩
            obtain ⟨e, he, rfl⟩ := List.mem_map.mp h1
            obtain ⟨_, _, b, hb, hbe⟩ := heo e he
            exact ⟨b.2, List.mem_map_of_mem (hpd.mem_iff.mp hb), h2.up hbe.2⟩
          · rintro ⟨q, h1, h2⟩
            obtain ⟨b, hb, rfl⟩ := List.mem_map.mp h1
            obtain ⟨e, he, hbe⟩ := hec b (hpd.mem_iff.mpr hb)
            exact ⟨e.2, List.mem_map_of_mem he, h2.up hbe.1⟩
        have hN1 := q8.same sG11
        have hN2 := q9.same sG11
        have hN3 := q10.same sG11
        have hMz := q11.same sG11
        have hO11 := sG11 _ _ q3
        have hk11 := sG11 _ _ q4
        have hPk11 := q7.same sG11
        have o011 := q2.trans (Off.of sG11 (a := p))
        have hp11 := q1.same sG11
        clear q1 q2 q3 q4 q5 q6 q7 q8 q9 q10 q11 hD10 hPe heo hec nx4 ndx4
        refine ⟨O, _, _, rfl, rfl, hO11, by show 3 < sizeLine; decide, ?_⟩
        have hN1 := hN1.upL (o := .lst ([V.ref x1, V.ref x2, V.ref x3] ++ [V.ref x4])) hO11
        have hN2 := hN2.upL (o := .lst ([V.ref x1, V.ref x2, V.ref x3] ++ [V.ref x4])) hO11
        have hN3 := hN3.upL (o := .lst ([V.ref x1, V.ref x2, V.ref x3] ++ [V.ref x4])) hO11
        have hN4 := hN4.upL (o := .lst ([V.ref x1, V.ref x2, V.ref x3] ++ [V.ref x4])) hO11
        have hMz := hMz.upL (o := .lst ([V.ref x1, V.ref x2, V.ref x3] ++ [V.ref x4])) hO11
        have hPk12 := hPk11.upL (o := .lst ([V.ref x1, V.ref x2, V.ref x3] ++ [V.ref x4])) hO11
        have hk12 : upd G11 O (.lst ([V.ref x1, V.ref x2, V.ref x3] ++ [V.ref x4])) pk = some (.lst (rfs kb)) := by rw [upd_ne hkO]; exact hk11
        have hO12 := upd_same (H := G11) (a := O) (o := .lst ([V.ref x1, V.ref x2, V.ref x3] ++ [V.ref x4]))
        have o012 := o011.up (o := .lst ([V.ref x1, V.ref x2, V.ref x3] ++ [V.ref x4])) nO0
        have hp12 := hp11.up (o := .lst ([V.ref x1, V.ref x2, V.ref x3] ++ [V.ref x4])) npO
        generalize upd G11 O (.lst ([V.ref x1, V.ref x2, V.ref x3] ++ [V.ref x4])) = G12 at *
        clear hO11 hk11 hPk11 o011 hp11 sG11
        have hkk : M23.kept (bs.map Prod.snd) = kp := hkp.symm
        have hsum : ∀ {H' : Hp} {x : Addr} {qs : List M23.Pd}, Made T.C_Sum K H' x sg qs → M23.kept qs = kp → SumO T.C_Sum K H' x sg kp := fun {H' x qs} h e => by
          have := h.sum
          rw [e] at this
          exact this
        have hb1 : (decide (sg = sg) && decide (kp = kp)) = true := by simp
        have h4 : ∀ H', Same G12 H' → ∀ v ∈ [V.ref x1, V.ref x2, V.ref x3] ++ [V.ref x4], ∃ x, v = .ref x ∧ SumO T.C_Sum K H' x sg kp := fun H' sh v hv => by
          rcases List.mem_cons.mp hv with rfl | hv
          · exact ⟨x1, rfl, hsum (hN1.same sh) e1⟩
          rcases List.mem_cons.mp hv with rfl | hv
          · exact ⟨x2, rfl, hsum (hN2.same sh) e2⟩
          rcases List.mem_cons.mp hv with rfl | hv
          · exact ⟨x3, rfl, hsum (hN3.same sh) e3⟩
          · rw [List.mem_singleton.mp hv]
            exact ⟨x4, rfl, hsum (hN4.same sh) e4⟩
        have hMsz := hsum hMz hkk
        have hLL : ([V.ref x1, V.ref x2, V.ref x3] ++ [V.ref x4]).length = 4 := rfl
        generalize [V.ref x1, V.ref x2, V.ref x3] ++ [V.ref x4] = LL at *
        clear hN1 hN2 hN3 hN4
        dsimp only
        refine ⟨_, rfl, O, rfl, ⟨_, .inl (.inl hO12)⟩, fun D6 nD6 => ?_⟩
        refine lc_gen (walk_list (xs := LL)) (Same G12) (fun i acc => acc = List.replicate i (.bl true)) (sz (by omega)) (fun i acc e => by rw [e, List.length_replicate]; exact Nat.le_refl _) rfl (same_upd nD6) (fun _ _ h => same_up h nD6) (fun _ h => .inl (.inl (h _ _ hO12))) (fun i x G13 G14 acc C N hi r hD ha yy cc nn => ?_) (fun G13 xs r hD ha => ?_)
        · obtain ⟨rfl, yy⟩ := yy
          obtain ⟨x, rfl, hx⟩ := h4 _ r x (List.mem_of_getElem? yy)
          have hA := hMsz.same r
          obtain ⟨da, ta, hata, _⟩ := id hA.at_
          obtain ⟨db, tb, hatb, _⟩ := id hx.at_
          refine ⟨rfl, yes_te ?_⟩
          refine ⟨_, rfl, _, rfl, a, da, _, .ref T.C_Sum, rfl, hata, ty_sum T hx, first_own, a, .ref x, sg, kp, rfl, hA, hfk, .inl ⟨x, sg, kp, rfl, hx, hfk, _, rfl, ?_⟩⟩
          rw [hb1]
          refine ⟨_, rfl, ite_t rfl ?_⟩
          refine ⟨_, rfl, _, rfl, x, db, _, .ref T.C_Sum, rfl, hatb, ty_sum T hA, first_own, x, .ref a, sg, kp, rfl, hx, hfk, .inl ⟨a, sg, kp, rfl, hA, hfk, _, rfl, ?_⟩⟩
          rw [hb1]
          refine ⟨_, rfl, ite_t rfl ?_⟩
          refine ⟨_, rfl, _, rfl, a, da, _, .ref T.C_Sum, rfl, hata, ty_sum T hx, first_own, a, .ref x, sg, kp, rfl, hA, hfk, .inl ⟨x, sg, kp, rfl, hx, hfk, _, rfl, ?_⟩⟩
          rw [hb1]
          refine ⟨_, rfl, _, rfl, ite_t rfl ?_⟩
          refine ⟨_, rfl, x, db, _, rfl, hatb, x, sg, kp, rfl, hx, hl, hfk, fun H7 s7 => ⟨_, rfl, ?_⟩⟩
          refine ⟨_, rfl, a, da, _, rfl, s7 _ _ hata, a, sg, kp, rfl, hA.same s7, hl, hfk, fun H8 s8 => ⟨_, rfl, rfl, ?_⟩⟩
          rw [decide_eq_true rfl]
          exact cc _ _ (r.trans (s7.trans s8)) (s8 _ _ (s7 _ _ hD)) (by rw [ha, List.replicate_succ'])
        · subst ha
          refine ⟨D6, List.replicate LL.length true, rfl, .inl (.inl (by rw [hD, List.map_replicate])), ?_⟩
          rw [all_id_rep]
          refine ⟨_, rfl, ite_f (by rfl) ?_⟩
          dsimp only [tNext]
          have hA := hMsz.same r
          have hk13 := r _ _ hk12
          have hPk13 := hPk12.same r
          obtain ⟨da, ta, hata, _⟩ := id hA.at_
          have o013 := o012.trans (Off.of r (a := p))
          have hp13 := hp12.same r
          clear h4 hO12 hD
          refine ⟨_, rfl, _, rfl, pk, rfs kb, rfl, .inl ⟨.inl (.inl hk13), fun u1 nu1 => ?_⟩⟩
          have su1 := same_upd (o := .tup (rfs kb)) nu1
          have hu1 := upd_same (H := G13) (a := u1) (o := .tup (rfs kb))
          generalize upd G13 u1 (.tup (rfs kb)) = G14 at *
          refine ⟨_, rfl, a, da, _, rfl, su1 _ _ hata, a, sg, kp, rfl, hA.same su1, hl, hfk, fun G15 s15 => ⟨_, rfl, ?_⟩⟩
          intro u2 nu2
          have su2 := same_upd (o := .dK []) nu2
          have hu2 := upd_same (H := G15) (a := u2) (o := .dK [])
          have hu1 := su2 _ _ (s15 _ _ hu1)
          have s16 := su1.trans (s15.trans su2)
          generalize upd G15 u2 (.dK []) = G16 at *
          refine ⟨_, rfl, by show 7 ≤ sizeLine; decide, fun O2 nO2' => ?_⟩
          obtain ⟨LO, hLO⟩ : ∃ LO : List V, LO = [V.non, V.int 0, V.ref pk, V.ref u1, V.str (spk sg kp), V.ref u2, tx sg] := ⟨_, rfl⟩
          have sO2 := same_upd (o := .lst LO) nO2'
          have hO2 := upd_same (H := G16) (a := O2) (o := .lst LO)
          rw [hLO] at sO2 hO2
          have s17 := s16.trans sO2
          have hodd : ∀ H', Same (upd G16 O2 (.lst [V.non, V.int 0, V.ref pk, V.ref u1, V.str (spk sg kp), V.ref u2, tx sg])) H' → ∀ v ∈ [V.non, V.int 0, V.ref pk, V.ref u1, V.str (spk sg kp), V.ref u2, tx sg], ∃ ty, TyX K H' v (.type ty) ∧ plainTy ty = true := fun H' sh v hv => by
            rcases List.mem_cons.mp hv with rfl | hv
            · exact ⟨_, .base .non, by decide +kernel⟩
            rcases List.mem_cons.mp hv with rfl | hv
            · exact ⟨_, .base (.int _), by decide +kernel⟩
            rcases List.mem_cons.mp hv with rfl | hv
            · exact ⟨_, .base (.lst (sh _ _ (s17 _ _ hk13))), by decide +kernel⟩
            rcases List.mem_cons.mp hv with rfl | hv
            · exact ⟨_, .base (.tup (sh _ _ (sO2 _ _ hu1))), by decide +kernel⟩
            rcases List.mem_cons.mp hv with rfl | hv
            · exact ⟨_, .base (.str _), by decide +kernel⟩
            rcases List.mem_cons.mp hv with rfl | hv
            · exact ⟨_, .base (.dK (sh _ _ (sO2 _ _ hu2))), by decide +kernel⟩
            · rw [List.mem_singleton.mp hv]
              exact ⟨_, .base (.str _), by decide +kernel⟩
          have hL7 : [V.non, V.int 0, V.ref pk, V.ref u1, V.str (spk sg kp), V.ref u2, tx sg].length = 7 := rfl
          generalize [V.non, V.int 0, V.ref pk, V.ref u1, V.str (spk sg kp), V.ref u2, tx sg] = L7 at *
          generalize upd G16 O2 (.lst L7) = G17 at *
          clear hu1 hu2 sO2 s16
          refine ⟨O2, rfl, ⟨_, .inl (.inl hO2)⟩, fun D7 nD7 => ?_⟩
          refine lc_gen (walk_list (xs := L7)) (Same G17) (fun i acc => acc = List.replicate i (.bl false)) (sz (by omega)) (fun i acc e => by rw [e, List.length_replicate]; exact Nat.le_refl _) rfl (same_upd nD7) (fun _ _ h => same_up h nD7) (fun _ h => .inl (.inl (h _ _ hO2))) (fun i x G18 G19 acc C N hi r7 hD ha yy cc nn => ?_) (fun G18 xs r7 hD ha => ?_)
          · obtain ⟨rfl, yy⟩ := yy
            obtain ⟨ty, hty, hpl⟩ := hodd _ r7 x (List.mem_of_getElem? yy)
            have hA := hA.same (s17.trans r7)
            obtain ⟨da, ta, hata, _⟩ := id hA.at_
            refine ⟨rfl, yes_te ⟨_, rfl, _, rfl, a, da, _, .type ty, rfl, hata, hty, first_plain hpl, a, x, sg, kp, rfl, hA, hfk, .inr ⟨ty, hty, hpl, _, rfl, cc _ _ r7 hD (by rw [ha, List.replicate_succ'])⟩⟩⟩
          · subst ha
            refine ⟨D7, List.replicate L7.length false, rfl, .inl (.inl (by rw [hD, List.map_replicate])), ?_⟩
            have ef : (List.replicate L7.length false).any id = false := by rw [hL7]; rfl
            rw [ef]
            refine ⟨_, rfl, ite_f (by rfl) ?_⟩
            dsimp only [tNext]
            have s18 := s17.trans r7
            have hA := hA.same s18
            have hk18 := s18 _ _ hk13
            have hPk18 := hPk13.same s18
            have o018 := o013.trans (Off.of s18 (a := p))
            have hp18 := hp13.same s18
            clear hodd hO2 hD hata
            obtain ⟨da, ta, hata, _⟩ := id hA.at_
            have hsl := hl.few
            refine ⟨⟨_, rfl⟩, _, rfl, sg, [121], rfl, rfl, by show sg.length + 1 ≤ sizeLine; omega, sg ++ [121], rfl, by rw [List.length_append, List.length_singleton]; omega, fun ys pw hperm hsrt npw => ?_⟩
            obtain ⟨zs, hzp, rfl⟩ := ones hperm
            have hzl : zs.length = sg.length + 1 := by rw [hzp.length_eq, List.length_append]; rfl
            have hzn : zs.Nodup := hzp.nodup_iff.mpr (List.nodup_append.mpr ⟨hl.up.imp fun h => Nat.ne_of_lt h, by simp, fun c hc d hd => by rw [List.mem_singleton.mp hd]; exact fun e => hy (e ▸ hc)⟩)
            have hzu := ones_up hsrt hzn
            have sw := same_upd (o := .lst ((zs.map fun c => tS [c]).map V.str)) npw
            refine ⟨_, pw, zs.map fun c => tS [c], rfl, rfl, .inl (.inl (.inl upd_same)), by rw [sum_one, show (Str.ofString "").length = 0 from rfl]; omega, ?_⟩
            have ej : Txt.join (Str.ofString "") (zs.map fun c => tS [c]) = tS zs := by
              have := join_tx (zs.map fun c => [c])
              rw [flat_one, List.map_map] at this
              exact this
            rw [ej]
            have hA := hA.same sw
            have hata := sw _ _ hata
            have hk19 := sw _ _ hk18
            have hPk19 := hPk18.same sw
            have o019 := o018.trans (Off.of sw (a := p))
            have hp19 := hp18.same sw
            generalize upd G18 pw (.lst ((zs.map fun c => tS [c]).map V.str)) = G19 at *
            clear hk18 hPk18 o018 hp18 sw npw
            dsimp only [gName]
            refine ⟨_, rfl, zs, rfl, by omega, _, _, rfl, rfl, _, rfl, ?_⟩
            refine ite2 (fun e => q _ hp19 o019) (fun e => ?_)
            have hz3 : zs.length ≤ 3 := by
              have : ¬ (3 : Int) < (zs.length : Int) := fun z => e (decide_eq_true z)
              omega
            have hzs : ∀ c ∈ sg, c ∈ zs := fun c hc => hzp.mem_iff.mpr (List.mem_append_left _ hc)
            have hzL : Lets zs := ⟨by omega, hz3, hzu, fun c hc => by
              rcases List.mem_append.mp (hzp.mem_iff.mp hc) with h | h
              · exact hl.az c h
              · rw [List.mem_singleton.mp h]; decide⟩
            have hzok : ∀ q ∈ kp, PdOk zs q := fun q hq y hy => (hokK q hq y hy).wide hzs
            have hne : (decide (sg = zs) && decide (kp = kp)) = false := by
              rw [decide_eq_false (fun z => by rw [← z] at hzl; omega)]
              rfl
            have hBz : ∀ H', Same G19 H' → Bun K H' (.ref pk) kp := fun H' sh => ⟨kb, ⟨pk, rfl, .inl (.inl (.inl (sh _ _ hk19)))⟩, ek, hPk19.same sh⟩
            refine ⟨_, rfl, _, rfl, _, rfl, fun x5 dx5 nx5 ndx5 nxx5 => ?_⟩
            refine make_go T (qs := kp) nx5 ndx5 nxx5 hzL (hBz _ (Same.refl _)) hzok (by omega) hkz fun G20 s20 hN5 => ⟨rfl, ?_⟩
            have hA := hA.same s20
            have hS5 := hN5.sum
            rw [e2] at hS5
            refine ⟨a, da, _, .ref T.C_Sum, rfl, s20 _ _ hata, ty_sum T hS5, first_own, a, .ref x5, sg, kp, rfl, hA, hfk, .inl ⟨x5, zs, kp, rfl, hS5, hfk, _, rfl, ?_⟩⟩
            rw [hne]
            refine ⟨_, rfl, ite_t rfl ?_⟩
            refine ⟨_, rfl, _, rfl, fun x6 dx6 nx6 ndx6 nxx6 => ?_⟩
            refine make_go T (qs := kp) nx6 ndx6 nxx6 hzL (hBz _ s20) hzok (by omega) hkz fun G21 s21 hN6 => ⟨rfl, ?_⟩
            have hS6 := hN6.sum
            rw [e2] at hS6
            obtain ⟨d6, t6, hat6, _⟩ := id hS6.at_
            have s22 := s20.trans s21
            refine ⟨x6, d6, _, rfl, hat6, rfl, x6, zs, kp, rfl, hS6, fun p6 b6 np6 e6 hP6 => ?_⟩
            have sp6 := same_upd (o := .lst (rfs b6)) np6
            have d61 : Dp K (upd G21 p6 (.lst (rfs b6))) (.ref p6) (dPL kp) := by
              have := aps_dp (hP6.same sp6)
              rw [e6] at this
              exact .lst (.inl (.inl upd_same)) this
            have s23 := s22.trans sp6
            have d62 : Dp K (upd G21 p6 (.lst (rfs b6))) (.ref pk) (dPL kp) := by
              have := aps_dp (hPk19.same s23)
              rw [ek] at this
              exact .lst (.inl (.inl (s23 _ _ hk19))) this
            refine ⟨_, rfl, _, _, d61, d62, (wt_dPL hfk).shaped (by decide), (wt_dPL hfk).shaped (by decide), ?_⟩
            have e7 : PyData.eqv (dPL kp) (dPL kp) = true := by
              show PyData.eqvAll _ _ = true
              rw [eqv_map M23.dP eqv_dP kp kp]
              exact decide_eq_true rfl
            rw [e7]
            exact q _ (hp19.same s23) (o019.trans (Off.of s23))
end
end Lw
namespace Lw
open PySem PySem.Spec PyProof.Rows L3
open L2 hiding del del_same del_ne
theorem redOf_eqq {p q : M23.Pd} (hp : ∀ x ∈ p, M23.Ok x) (hq : ∀ x ∈ q, M23.Ok x) (h : M23.Eqv p q) : M23.redOf p = M23.redOf q :=
  M23.redOf_uniq hp (fun x hx => hq x (M23.redOf_mem hx)) (M23.redOf_red q) (h.trans (M23.redOf_eqv q))
theorem kept_nodup (ps : List M23.Pd) : (M23.kept ps).Nodup := (M23.canon_nodup _).filter _
theorem kept_from {sg : List Nat} (hl : Lets sg) {many most : Nat} {ps : List M23.Pd} (hok : ∀ p ∈ ps, PdOk sg p) (h : From sg many most ps) : ∃ D : List M23.Pd, D.length ≤ many ∧ (∀ p ∈ D, p.length ≤ most) ∧ ∀ p ∈ M23.kept ps, p ∈ D := by
  obtain ⟨qs, h1, h2, h3⟩ := h
  refine ⟨qs.map M23.redOf, by rw [List.length_map]; exact h1, fun p hp => ?_, fun p hp => ?_⟩
  · obtain ⟨q, hq, rfl⟩ := List.mem_map.mp hp
    exact Nat.le_trans (M23.redOf_len q) (h2 q hq).2
  · obtain ⟨r, hr, rfl⟩ := M23.kept_mem hp
    obtain ⟨q, hq, he⟩ := h3 r hr
    rw [← redOf_eqq (fun x hx => ((h2 q hq).1 x hx).ok hl) (fun x hx => (hok r hr x hx).ok hl) he]
    exact List.mem_map_of_mem hq
theorem cnt_le : ∀ {D : List M23.Pd} {m : Nat}, (∀ p ∈ D, p.length ≤ m) → M23.cnt D ≤ (m + 2) ^ D.length
  | [], _, _ => Nat.le_refl _
  | p :: D, m, h => by
    have ih := cnt_le (D := D) fun q hq => h q (List.mem_cons_of_mem _ hq)
    rw [List.length_cons, Nat.pow_succ, Nat.mul_comm]
    exact Nat.mul_le_mul (Nat.add_le_add_right (h p List.mem_cons_self) 2) ih
theorem cnt_app : ∀ (D E : List M23.Pd), M23.cnt (D ++ E) = M23.cnt D * M23.cnt E
  | [], E => by show M23.cnt E = 1 * M23.cnt E; rw [Nat.one_mul]
  | p :: D, E => by
    show (p.length + 2) * M23.cnt (D ++ E) = (p.length + 2) * M23.cnt D * M23.cnt E
    rw [cnt_app D E, Nat.mul_assoc]
theorem cnt_few {D : List M23.Pd} {m n : Nat} (h : ∀ p ∈ D, p.length ≤ m) (hn : D.length ≤ n) : M23.cnt D ≤ (m + 2) ^ n :=
  Nat.le_trans (cnt_le h) (Nat.pow_le_pow_right (by omega) hn)
section
variable {P : Program} {w : World} {K : PySem.W.Frag} {mg : Str → Option Value} {base : Heap}
def spRight : Sp := fun vs H Q _ => ∃ p : Addr, vs = [.ref p] ∧ Pot H p ∧ ∀ H', Off p H H' → Q (.bl true) H'
theorem ok_law_right (T : All K mg) : FnOkG P w K mg base CX0 14 T.f_law_right T.d_law_right ["_law_pot_here"] spRight := by
  refine okG T.law_right.F sc_law_right (fun vs H Q E h => ?_) (fun cdv A outer s H vs Q E hr hG h => ?_)
  · obtain ⟨p, rfl, _⟩ := h
    rfl
  · obtain ⟨p, rfl, hp, q⟩ := h
    refine ⟨_, pss_cons (ps_set (i := 1) sc_law_right.nd rfl (by first | exact Or.inl rfl | exact Or.inr rfl) (pe_call (ok_law_signs T) (hr.mono (by decide)) (by rfl) T.law_signs.g T.law_signs.F.kp T.law_signs.b .nil pass0 (pa_cons (pv 0) pa_nil)))
      (pss_cons (ps_par rfl sc_law_right.nd (i := 2) (j := 3) rfl rfl (by decide) rfl rfl (pa_cons (pe_call (ok_law_some T) (hr.mono (by decide)) (by rfl) T.law_some.g T.law_some.F.kp T.law_some.b .nil pass0 (pa_cons (pv 0) (pa_cons (pv 1) (pa_cons pe_int (pa_cons pe_int pa_nil))))) (pa_cons (pe_call (ok_law_some T) (hr.mono (by decide)) (by rfl) T.law_some.g T.law_some.F.kp T.law_some.b .nil pass0 (pa_cons (pv 0) (pa_cons (pv 1) (pa_cons pe_int (pa_cons pe_int pa_nil))))) pa_nil)) (by rfl))
      (pss_cons (ps_par rfl sc_law_right.nd (i := 4) (j := 5) rfl rfl (by decide) rfl rfl (pa_cons (pe_callTy call_list_of (by rfl) T.b_list PyProof.Rows.boot_list (pa_cons (pv 2) pa_nil)) (pa_cons (pe_callB (call_reprD hr hG) (by rfl) T.b_repr (by decide +kernel) (pa_cons (pe_lst (pa_cons (pv 2) (pa_cons (pv 3) pa_nil))) pa_nil)) pa_nil)) (by rfl))
      (pss_cons (ps_par rfl sc_law_right.nd (i := 6) (j := 7) rfl rfl (by decide) rfl rfl (pa_cons (pe_make ⟨T.mk_Sum, T.Sum_init.m.at_, T.Sum_init.m.fn, T.kp_Sum⟩ (ok_Sum_init T) (hr.mono (by decide)) (by rfl) T.g_Sum T.Sum_init.b .nil pass0 (pa_cons (pv 1) (pa_cons (pv 4) pa_nil))) (pa_cons (pe_make ⟨T.mk_Sum, T.Sum_init.m.at_, T.Sum_init.m.fn, T.kp_Sum⟩ (ok_Sum_init T) (hr.mono (by decide)) (by rfl) T.g_Sum T.Sum_init.b .nil pass0 (pa_cons (pv 1) (pa_cons (pe_callTy call_tuple_of (by rfl) T.b_tuple (show bootBuiltins "tuple" = some (.type "tuple") by decide +kernel) (pa_cons (pv 3) pa_nil)) pa_nil))) pa_nil)) (by rfl))
      (pss_cons (ps_expr (pe_bm PySem.F.plainAttrs_list PySem.F.slot_list_append PySem.F.type_list_append mt_append (pv 4) (pa_cons (pe_tup (pa_cons pe_str (pa_cons pe_str pa_nil))) pa_nil)))
      (pss_cons (ps_expr (pe_bm0 PySem.F.plainAttrs_list PySem.F.slot_list_reverse PySem.F.type_list_reverse mt_reverse (pv 4)))
      (pss_cons (ps_if (PW.pt (pw_or (pt_not (pt_val (pe_callG (ok_law_told_right T) (hr.mono (by decide)) hG (by rfl) T.law_told_right.g T.law_told_right.F.kp T.law_told_right.b pass0 (pa_cons (pv 1) (pa_cons (pv 6) (pa_cons (pv 2) pa_nil)))))) (pw_or1 (pt_not (pt_val (pe_callG (ok_law_in_right T) (hr.mono (by decide)) hG (by rfl) T.law_in_right.g T.law_in_right.F.kp T.law_in_right.b pass0 (pa_cons (pv 1) (pa_cons (pv 6) (pa_cons (pv 2) pa_nil))))))))) (pss_one (ps_ret pe_bl)) pss_nil)
      (pss_cons (ps_if (PW.pt (pw_or (pt_not (pt_val (pe_callG (ok_law_told_right T) (hr.mono (by decide)) hG (by rfl) T.law_told_right.g T.law_told_right.F.kp T.law_told_right.b pass0 (pa_cons (pv 1) (pa_cons (pv 7) (pa_cons (pv 3) pa_nil)))))) (pw_or1 (pt_not (pt_val (pe_callG (ok_law_again_right T) (hr.mono (by decide)) hG (by rfl) T.law_again_right.g T.law_again_right.F.kp T.law_again_right.b pass0 (pa_cons (pv 0) (pa_cons (pv 1) (pa_cons (pv 6) (pa_cons (pv 2) pa_nil)))))))))) (pss_one (ps_ret pe_bl)) pss_nil)
      (pss_cons (ps_set (i := 8) sc_law_right.nd rfl (by first | exact Or.inl rfl | exact Or.inr rfl) (pe_meth0 (pv 6) T.cl_Sum T.Sum_products.m (ok_Sum_products T) (hr.mono (by decide)) T.Sum_products.b .nil pass0))
      (pss_cons (ps_if (PW.pt (pw_and (pt_cmpR (op_neD (u64 hr)) (pv 8) (pe_lst pa_nil) (nomark _)) (pw_and1 (pt_cmpR (op_neD (u64 hr)) (pe_ix ix_list (pv 8) pe_int (fun _ _ => rfl)) (pe_tup pa_nil) (nomark _))))) (pss_one (ps_asg (pe_slice sl_tupA (pe_ix ix_list (pv 8) pe_int (fun _ _ => rfl)) (po_some pe_int) po_none) (pg_sub (pv 8) pe_int set_list))) pss_nil)
      (pss_cons (ps_if (PW.pt (pw_or (pt_not (pt_val (pe_callG (ok_law_two_right T) (hr.mono (by decide)) hG (by rfl) T.law_two_right.g T.law_two_right.F.kp T.law_two_right.b pass0 (pa_cons (pv 1) (pa_cons (pv 6) (pa_cons (pv 7) pa_nil)))))) (pw_or1 (pt_not (pt_val (pe_callG (ok_law_two_right T) (hr.mono (by decide)) hG (by rfl) T.law_two_right.g T.law_two_right.F.kp T.law_two_right.b pass0 (pa_cons (pv 1) (pa_cons (pv 6) (pa_cons (pe_make ⟨T.mk_Sum, T.Sum_init.m.at_, T.Sum_init.m.fn, T.kp_Sum⟩ (ok_Sum_init T) (hr.mono (by decide)) (by rfl) T.g_Sum T.Sum_init.b .nil pass0 (pa_cons (pv 1) (pa_cons (pv 8) pa_nil))) pa_nil))))))))) (pss_one (ps_ret pe_bl)) pss_nil)
      (pss_cons (ps_if (PW.pt (pw_or (pt_not (pt_val (pe_callG (ok_law_told_right T) (hr.mono (by decide)) hG (by rfl) T.law_told_right.g T.law_told_right.F.kp T.law_told_right.b pass0 (pa_cons (pv 1) (pa_cons (pv 6) (pa_cons (pv 2) pa_nil)))))) (pw_or1 (pt_cmpR op_ne (pe_callB (call_reprD hr hG) (by rfl) T.b_repr (by decide +kernel) (pa_cons (pe_lst (pa_cons (pv 2) (pa_cons (pv 3) pa_nil))) pa_nil)) (pv 5) (nomark _))))) (pss_one (ps_ret pe_bl)) pss_nil)
      (pss_one (ps_ret (pe_cmpR (op_eqD (u64 hr)) (pe_lst (pa_cons (ClX.pe_cval (pe_glob (v := .ref T.C_Sum) rfl T.g_Sum rfl)) (pa_cons (pe_con (pv 6) rfl) pa_nil))) (pe_lst (pa_cons pe_int (pa_cons pe_int pa_nil))) (by rfl))))))))))))))), ?_⟩
    dsimp only [cxOf]
    refine ⟨_, rfl, p, rfl, hp, fun H1 sg hl hy hp1 o1 => ?_⟩
    dsimp only [gName]
    refine ⟨_, rfl, _, rfl, p, sg, 5, 4, rfl, hp1, hl, by decide, by decide, fun H2 l1 c1 hp2 o2 nl1 hl1 hP1 hok1 hz1 hf1 => ?_⟩
    refine ⟨_, rfl, _, rfl, p, sg, 3, 3, rfl, hp2, hl, by decide, by decide, fun H3 l2 c2 hp3 o3 nl2 hl2 hP2 hok2 hz2 hf2 => ⟨_, _, rfl, ?_⟩⟩
    have n1p : l1 ≠ p := fun z => hp1.ne nl1 z.symm
    have n2p : l2 ≠ p := fun z => hp2.ne nl2 z.symm
    have hl1 := o3 _ _ hl1 n1p
    have hP1 := hP1.off hp2 o3
    have o03 := o1.trans (o2.trans o3)
    clear nl1 nl2 o1 o2 o3 hp1 hp2
    have b1 : (rfs c1).length = c1.length := List.length_map _
    have b2 : (rfs c2).length = c2.length := List.length_map _
    have few1 : Few (c1.map Prod.snd) := ⟨by rw [List.length_map]; omega, fun r hr => by
      obtain ⟨c, hc, rfl⟩ := List.mem_map.mp hr
      exact ⟨by have := (hok1 c hc).2; omega, fun y hy => ((hok1 c hc).1 y hy).tx hl⟩⟩
    have few2 : Few (c2.map Prod.snd) := ⟨by rw [List.length_map]; omega, fun r hr => by
      obtain ⟨c, hc, rfl⟩ := List.mem_map.mp hr
      exact ⟨by have := (hok2 c hc).2; omega, fun y hy => ((hok2 c hc).1 y hy).tx hl⟩⟩
    have ok1 : ∀ r ∈ c1.map Prod.snd, PdOk sg r := fun r hr => by
      obtain ⟨c, hc, rfl⟩ := List.mem_map.mp hr
      exact (hok1 c hc).1
    have ok2 : ∀ r ∈ c2.map Prod.snd, PdOk sg r := fun r hr => by
      obtain ⟨c, hc, rfl⟩ := List.mem_map.mp hr
      exact (hok2 c hc).1
    have wd : Wt (.list [dPL (c1.map Prod.snd), dPL (c2.map Prod.snd)]) ((221 * 20 + 1) * 2) 3 := Wt.list (k := 2) (fun d hd => by
      rcases List.mem_cons.mp hd with rfl | hd
      · exact wt_dPL few1
      · rw [List.mem_singleton.mp hd]; exact wt_dPL few2) (by show 2 ≤ 2; decide)
    have wds := wd.shw (by decide) (by decide)
    have dat : ∀ H', Same H3 H' → Dp K H' (.ref l1) (dPL (c1.map Prod.snd)) ∧ Dp K H' (.ref l2) (dPL (c2.map Prod.snd)) := fun H' sh => ⟨.lst (.inl (.inl (sh _ _ hl1))) (aps_dp (hP1.same sh)), .lst (.inl (.inl (sh _ _ hl2))) (aps_dp (hP2.same sh))⟩
    dsimp only
    -- handed, kept_here
    refine ⟨_, rfl, l1, _, rfl, .inl (.inl (.inl hl1)), fun L nL => ?_⟩
    have sL := same_upd (o := .lst (rfs c1)) nL
    have hL := upd_same (H := H3) (a := L) (o := .lst (rfs c1))
    have nL0 := o03.free nL hp3
    generalize upd H3 L (.lst (rfs c1)) = H4 at *
    refine ⟨_, rfl, _, rfl, by show 2 ≤ sizeLine; decide, fun q1 nq1 => ?_⟩
    have sq1 := same_upd (o := .lst [V.ref l1, V.ref l2]) nq1
    have hq1 := upd_same (H := H4) (a := q1) (o := .lst [V.ref l1, V.ref l2])
    have s5 := sL.trans sq1
    have hL5 := sq1 _ _ hL
    generalize upd H4 q1 (.lst [V.ref l1, V.ref l2]) = H5 at *
    refine ⟨.ref q1, _, rfl, .lst (.inl (.inl hq1)) (.cons (dat _ s5).1 (.cons (dat _ s5).2 .nil)), wds.s, wds.z, wds.p, _, _, rfl, ?_⟩
    dsimp only
    -- made, mate
    refine ⟨_, rfl, _, rfl, fun x dx nx ndx nxx => ?_⟩
    refine make_go T (qs := c1.map Prod.snd) nx ndx nxx hl ⟨c1, ⟨L, rfl, .inl (.inl (.inl hL5))⟩, rfl, hP1.same s5⟩ ok1 few1.1 (fun r hr => (few1.2 r hr).1) fun H6 s6 hM => ⟨rfl, ?_⟩
    have s56 := s5.trans s6
    refine ⟨_, rfl, _, rfl, l2, _, rfl, .inl ⟨.inl (.inl (s56 _ _ hl2)), fun t2 nt2 => ?_⟩⟩
    have st2 := same_upd (o := .tup (rfs c2)) nt2
    have ht2 := upd_same (H := H6) (a := t2) (o := .tup (rfs c2))
    have s57 := s56.trans st2
    have hM := hM.same st2
    have hL7 := st2 _ _ (s6 _ _ hL5)
    generalize upd H6 t2 (.tup (rfs c2)) = H7 at *
    intro y dy ny ndy nyy
    refine make_go T (qs := c2.map Prod.snd) ny ndy nyy hl ⟨c2, ⟨t2, rfl, .inr (.inl (.inl ht2))⟩, rfl, hP2.same s57⟩ ok2 few2.1 (fun r hr => (few2.2 r hr).1) fun H8 s8 hN => ⟨rfl, _, _, rfl, ?_⟩
    have s58 := s57.trans s8
    have hM := hM.same s8
    have hL8 := s8 _ _ hL7
    clear hq1 ht2 hL5 hL7 hL s5 s6 s56 s57 st2 s8 nx ndx ny ndy nt2 nq1 sq1
    dsimp only
    -- handed changes
    refine ⟨_, rfl, .inl ⟨rfl, _, .inl (.inl hL8)⟩, by show 2 ≤ sizeLine; decide, fun t3 nt3 => ?_⟩
    have st3 := same_upd (o := .tup [V.str (Str.ofString "a"), V.str (Str.ofString "b")]) nt3
    have hL9 := st3 _ _ hL8
    have hM := hM.same st3
    have hN := hN.same st3
    have s59 := s58.trans st3
    generalize upd H8 t3 (.tup [V.str (Str.ofString "a"), V.str (Str.ofString "b")]) = H9 at *
    refine ⟨L, _, _, rfl, rfl, hL9, by have : sizeLine = 16777216 := sizeLine_eq; omega, ?_⟩
    have hM := hM.upL (o := .lst (rfs c1 ++ [V.ref t3])) hL9
    have hN := hN.upL (o := .lst (rfs c1 ++ [V.ref t3])) hL9
    have s60 : Same H3 (upd H9 L (.lst (rfs c1 ++ [V.ref t3]))) := same_up s59 nL
    have hL10 := upd_same (H := H9) (a := L) (o := .lst (rfs c1 ++ [V.ref t3]))
    generalize upd H9 L (.lst (rfs c1 ++ [V.ref t3])) = H10 at *
    clear hL8 hL9 st3 s58 s59 nt3
    refine ⟨_, rfl, .inl ⟨rfl, _, .inl (.inl hL10)⟩, L, _, rfl, rfl, hL10, ?_⟩
    have hM := hM.upL (o := .lst (rfs c1 ++ [V.ref t3]).reverse) hL10
    have hN := hN.upL (o := .lst (rfs c1 ++ [V.ref t3]).reverse) hL10
    have s61 : Same H3 (upd H10 L (.lst (rfs c1 ++ [V.ref t3]).reverse)) := same_up s60 nL
    generalize upd H10 L (.lst (rfs c1 ++ [V.ref t3]).reverse) = H11 at *
    clear hL10 s60 sL
    -- told, in
    refine ⟨_, rfl, _, rfl, _, rfl, sg, x, l1, c1, rfl, hM, .inl (.inl (s61 _ _ hl1)), hP1.same s61, fun H12 s12 => ⟨_, rfl, ite_f (by decide) ?_⟩⟩
    have s62 := s61.trans s12
    have hM := hM.same s12
    have hN := hN.same s12
    refine ⟨_, rfl, _, rfl, _, rfl, sg, x, l1, c1, rfl, hM, hy, .inl (.inl (s62 _ _ hl1)), hP1.same s62, fun H13 s13 => ⟨_, rfl, ite_f (by decide) ?_⟩⟩
    have s63 := s62.trans s13
    have hM := hM.same s13
    have hN := hN.same s13
    dsimp only [tNext]
    refine ⟨_, rfl, _, rfl, _, rfl, sg, y, l2, c2, rfl, hN, .inl (.inl (s63 _ _ hl2)), hP2.same s63, fun H14 s14 => ⟨_, rfl, ite_f (by decide) ?_⟩⟩
    have s64 := s63.trans s14
    have hM := hM.same s14
    have hN := hN.same s14
    have hp14 := hp3.same s64
    obtain ⟨D1, d11, d12, d13⟩ := kept_from hl ok1 hf1
    obtain ⟨D2, d21, d22, d23⟩ := kept_from hl ok2 hf2
    have hk5 : (M23.kept (c1.map Prod.snd)).length ≤ 5 := Nat.le_trans (M23.nodup_le (kept_nodup _) d13) d11
    refine ⟨_, rfl, _, rfl, _, rfl, _, rfl, p, sg, x, l1, c1, rfl, hp14, hM, hy, .inl (.inl (s64 _ _ hl1)), n1p, hP1.same s64, by omega, fun b hb => by have := (hok1 b hb).2; omega, hk5, fun H15 hp15 o15 => ⟨_, rfl, ite_f (by decide) ?_⟩⟩
    have hM := hM.off hp14 o15
    have hN := hN.off hp14 o15
    have o315 := (Off.of s64 (a := p)).trans o15
    clear s12 s13 s14 s61 s62 s63 s64 o15 hp14
    dsimp only [tNext]
    -- near
    have hokK := hM.okK
    have hMs := hM.sum
    have hkr : ∀ r ∈ M23.kept (c1.map Prod.snd), M23.redOf r = r := fun r hr => M23.red_self (M23.kept_good (fun q hq z hz => (ok1 q hq z hz).ok hl) r hr)
    have hk4 : ∀ r ∈ M23.kept (c1.map Prod.snd), r.length ≤ 4 := fun r hr => d12 r (d13 r hr)
    obtain ⟨kp, hkp⟩ : ∃ kp, kp = M23.kept (c1.map Prod.snd) := ⟨_, rfl⟩
    rw [← hkp] at hokK hMs hkr hk4 hk5 d13
    obtain ⟨dx', tx', hat, _⟩ := id hMs.at_
    refine ⟨_, rfl, x, dx', _, rfl, hat, rfl, x, sg, kp, rfl, hMs, fun n8 nb nn8 en hPn => ?_⟩
    have sn8 := same_upd (o := .lst (rfs nb)) nn8
    have hn8 := upd_same (H := H15) (a := n8) (o := .lst (rfs nb))
    have hM := hM.same sn8
    have hN := hN.same sn8
    have hPn := hPn.same sn8
    have o316 := o315.trans (Off.of sn8 (a := p))
    have n83 := o315.free nn8 hp15
    have hnbl : nb.length = kp.length := by rw [← en, List.length_map]
    have hnbm : ∀ b ∈ nb, b.2 ∈ kp := fun b hb => en ▸ List.mem_map_of_mem hb
    generalize upd H15 n8 (.lst (rfs nb)) = H16 at *
    clear hat hMs o315 hp15 nn8 sn8
    dsimp only [gName]
    refine seq_to ?_
    refine join (fun σ' H' => σ' = [some (.ref p), some (tx sg), some (.ref l1), some (.ref l2), some (.ref L), some (.str (PyData.list [dPL (c1.map Prod.snd), dPL (c2.map Prod.snd)]).shown), some (.ref x), some (.ref y), some (.ref n8)] ∧ Off p H3 H' ∧ Made T.C_Sum K H' x sg (c1.map Prod.snd) ∧ Made T.C_Sum K H' y sg (c2.map Prod.snd) ∧
        ∃ (nb' : List AP) (E' : List M23.Pd), H' n8 = some (.lst (rfs nb')) ∧ Prods K H' nb' ∧ nb'.length ≤ 5 ∧ (∀ b ∈ nb', PdOk sg b.2 ∧ b.2.length ≤ 20) ∧ (∀ b ∈ nb', M23.redOf b.2 ∈ E') ∧ (∀ r ∈ kp, r ∈ E') ∧ E'.length ≤ 6 ∧ ∀ r ∈ E', r.length ≤ 4) (fun N hNx => ?_) (fun σ' H17 p17 => ?_)
    · have skip : ∀ H', Same H16 H' → N _ H' := fun H' sh => hNx _ H' ⟨rfl, o316.trans (Off.of sh), hM.same sh, hN.same sh, nb, kp, sh _ _ hn8, hPn.same sh, by omega, fun b hb => ⟨hokK _ (hnbm b hb), by have := hk4 _ (hnbm b hb); omega⟩, fun b hb => by rw [hkr _ (hnbm b hb)]; exact hnbm b hb, fun r hr => hr, by omega, hk4⟩
      have dn : ∀ H', Same H16 H' → Dp K H' (.ref n8) (dPL kp) := fun H' sh => by
        have := aps_dp (hPn.same sh)
        rw [en] at this
        exact .lst (.inl (.inl (sh _ _ hn8))) this
      have fewk : Few kp := ⟨by omega, fun r hr => ⟨by have := hk4 r hr; omega, fun z hz => (hokK r hr z hz).tx hl⟩⟩
      refine ⟨_, rfl, by show 0 ≤ sizeLine; decide, fun e1 ne1 => ?_⟩
      have se1 := same_upd (o := .lst []) ne1
      refine ⟨_, _, dn _ se1, .lst (.inl (.inl upd_same)) .nil, (wt_dPL fewk).shaped (by decide), rfl, ?_⟩
      rw [eq_nilP]
      generalize upd H16 e1 (.lst []) = G1 at *
      cases kp with
      | nil => exact ⟨_, rfl, ite_f (by decide) (ite_f (by decide) (skip _ se1))⟩
      | cons r kp =>
        refine ⟨_, rfl, ite_t (by rfl) ?_⟩
        cases nb with
        | nil => cases en
        | cons b nb =>
          obtain ⟨eb, en'⟩ := List.cons.inj en
          have hbT := hPn b List.mem_cons_self
          have hrz := hk4 r List.mem_cons_self
          refine ⟨_, rfl, n8, rfs (b :: nb), _, .ref b.1, rfl, rfl, .inl (.inl (se1 _ _ hn8)), (show atI (rfs (b :: nb)) ((0 : Nat) : Int) = some (.ref b.1) from atI_nat rfl), by show 0 ≤ sizeLine; decide, fun e2 ne2 => ?_⟩
          have se2 := se1.trans (same_upd (o := .tup []) ne2)
          have db : Dp K (upd G1 e2 (.tup [])) (.ref b.1) (M23.dP b.2) := pd_dp (sqT_same hbT se2)
          have hbz4 : b.2.length ≤ 4 := by
            have e : b.2 = r := eb
            rw [e]
            exact hrz
          have hbok : PdOk sg b.2 := by
            have e : b.2 = r := eb
            rw [e]
            exact hokK r List.mem_cons_self
          have wb : Wt (M23.dP b.2) (11 * 20) 1 := wt_dP (fun z hz => (hbok z hz).tx hl) (by omega)
          refine ⟨_, .tuple [], db, .tup (.inl (.inl upd_same)) .nil, wb.shaped (by decide), rfl, ?_⟩
          generalize upd G1 e2 (.tup []) = G2 at *
          have eqn : PyData.eqv (M23.dP b.2) (.tuple []) = b.2.isEmpty := by cases b.2 <;> rfl
          rw [eqn]
          cases hbe : b.2 with
          | nil => exact ⟨_, rfl, ite_f (by decide) (skip _ se2)⟩
          | cons z zs =>
            refine ⟨_, rfl, ite_t (by rfl) ?_⟩
            refine ⟨_, rfl, n8, rfs (b :: nb), _, .ref b.1, rfl, rfl, .inl (.inl (se2 _ _ hn8)), (show atI (rfs (b :: nb)) ((0 : Nat) : Int) = some (.ref b.1) from atI_nat rfl), _, rfl, ?_⟩
            unfold tNoPart
            dsimp only
            refine slA_go (xs := b.2.map tx) (sqT_same hbT se2) fun H' c sh hc => ?_
            have hc : SqT K H' c (cutV (b.2.map tx) (some ((1 : Nat) : Int)) none) := hc
            rw [cutV_from, ← List.map_drop] at hc
            have hn' := sh _ _ (se2 _ _ hn8)
            have shh := se2.trans sh
            refine ⟨_, rfl, n8, rfs (b :: nb), 0, 0, rfl, rfl, hn', by unfold ixN rfs; simp, hNx _ _ ⟨rfl, (o316.trans (Off.of shh)).up n83, (hM.same shh).upL hn', (hN.same shh).upL hn', (c, b.2.drop 1) :: nb, (r :: kp) ++ [M23.redOf (b.2.drop 1)], by rw [upd_same]; rfl, fun m hm => ?_, ?_, fun m hm => ?_, fun m hm => ?_, fun q hq => List.mem_append_left _ hq, by rw [List.length_append, List.length_singleton]; omega, fun q hq => ?_⟩⟩
            · rcases List.mem_cons.mp hm with rfl | hm
              · exact sqT_upL hn' hc
              · exact sqT_upL hn' (sqT_same (hPn m (List.mem_cons_of_mem _ hm)) shh)
            · rw [List.length_cons] at hnbl hk5 ⊢
              rw [List.length_cons] at hnbl
              omega
            · rcases List.mem_cons.mp hm with rfl | hm
              · exact ⟨fun z hz => hbok z (List.mem_of_mem_drop hz), by show (b.2.drop 1).length ≤ 20; rw [List.length_drop]; omega⟩
              · have h1 := hnbm m (List.mem_cons_of_mem _ hm)
                exact ⟨hokK _ h1, by have := hk4 _ h1; omega⟩
            · rcases List.mem_cons.mp hm with rfl | hm
              · exact List.mem_append_right _ (List.mem_singleton.mpr rfl)
              · have h1 := hnbm m (List.mem_cons_of_mem _ hm)
                rw [hkr _ h1]
                exact List.mem_append_left _ h1
            · rcases List.mem_append.mp hq with hq | hq
              · exact hk4 q hq
              · rw [List.mem_singleton.mp hq]
                exact Nat.le_trans (M23.redOf_len _) (by rw [List.length_drop]; omega)
    · obtain ⟨rfl, o17, hM, hN, nb', E', hn17, hPn', hnl', hnok, hnr, hkE, hE6, hE4⟩ := p17
      clear hPn hnbm o316
      have hcD : M23.cnt (D1 ++ D2) ≤ 2000000 := by
        rw [cnt_app]
        exact Nat.le_trans (Nat.mul_le_mul (cnt_few (m := 4) (n := 5) d12 d11) (cnt_few (m := 3) (n := 3) d22 d21)) (by decide)
      have hcE : M23.cnt E' ≤ 2000000 := Nat.le_trans (cnt_few hE4 hE6) (by decide)
      dsimp only
      refine ⟨_, rfl, _, rfl, _, rfl, sg, x, y, c1.map Prod.snd, c2.map Prod.snd, D1 ++ D2, rfl, hM, hN, fun r hr => ?_, hcD, fun H18 s18 => ⟨_, rfl, ite_f (by decide) ?_⟩⟩
      · rcases List.mem_append.mp hr with hr | hr
        · exact List.mem_append_left _ (d13 r (by rw [hkp]; exact hr))
        · exact List.mem_append_right _ (d23 r hr)
      have hM := hM.same s18
      refine ⟨_, rfl, _, rfl, _, rfl, _, rfl, fun z dz nz ndz nzz => ?_⟩
      have hoN : ∀ r ∈ nb'.map Prod.snd, PdOk sg r ∧ r.length ≤ 20 := fun r hr => by
        obtain ⟨b, hb, rfl⟩ := List.mem_map.mp hr
        exact hnok b hb
      refine make_go T (qs := nb'.map Prod.snd) nz ndz nzz hl ⟨nb', ⟨n8, rfl, .inl (.inl (.inl (s18 _ _ hn17)))⟩, rfl, hPn'.same s18⟩ (fun r hr => (hoN r hr).1) (by rw [List.length_map]; omega) (fun r hr => (hoN r hr).2) fun H19 s19 hO => ⟨rfl, ?_⟩
      have hM := hM.same s19
      refine ⟨sg, x, z, c1.map Prod.snd, nb'.map Prod.snd, E', rfl, hM, hO, fun r hr => ?_, hcE, fun H20 s20 => ⟨_, rfl, ite_f (by decide) ?_⟩⟩
      · rcases List.mem_append.mp hr with hr | hr
        · exact hkE r (by rw [hkp]; exact hr)
        · obtain ⟨q', hq', rfl⟩ := M23.kept_mem hr
          obtain ⟨b, hb, rfl⟩ := List.mem_map.mp hq'
          exact hnr b hb
      have hM := hM.same s20
      have o20 := o17.trans (Off.of (s18.trans (s19.trans s20)) (a := p))
      have hl1' := o20 _ _ hl1 n1p
      have hl2' := o20 _ _ hl2 n2p
      have hP1' := hP1.off hp3 o20
      have hP2' := hP2.off hp3 o20
      clear hn17 hPn' hnr hkE hO s18 s19 s20 o17
      dsimp only [tNext]
      refine ⟨_, rfl, _, rfl, _, rfl, sg, x, l1, c1, rfl, hM, .inl (.inl hl1'), hP1', fun H21 s21 => ⟨_, rfl, ite_f (by decide) ?_⟩⟩
      refine ⟨_, rfl, _, rfl, by show 2 ≤ sizeLine; decide, fun q2 nq2 => ?_⟩
      have sq2 := same_upd (o := .lst [V.ref l1, V.ref l2]) nq2
      have s22 := s21.trans sq2
      have hM := hM.same s22
      refine ⟨.ref q2, .list [dPL (c1.map Prod.snd), dPL (c2.map Prod.snd)], rfl, .lst (.inl (.inl upd_same)) (.cons (.lst (.inl (.inl (s22 _ _ hl1'))) (aps_dp (hP1'.same s22))) (.cons (.lst (.inl (.inl (s22 _ _ hl2'))) (aps_dp (hP2'.same s22))) .nil)), wds.s, wds.z, wds.p, _, rfl, rfl, _, rfl, ite_f (by simp) ?_⟩
      have o22 := o20.trans (Off.of s22 (a := p))
      generalize upd H21 q2 (.lst [V.ref l1, V.ref l2]) = H22 at *
      dsimp only [tNext]
      obtain ⟨tk, hcv⟩ := T.cv_Sum_MOST_PRODUCTS
      obtain ⟨tk2, hkv⟩ := T.k_Sum_MOST_PRODUCTS
      obtain ⟨dx', tx', hat, _⟩ := hM.sum.at_
      refine ⟨T.C_Sum, _, _, _, rfl, T.cr_Sum, hcv, _, rfl, x, T.C_Sum, dx', _, _, _, rfl, hat, T.cl_Sum, hkv, rfl, by show 2 ≤ sizeLine; decide, fun u1 nu1 => ?_⟩
      have su1 := same_upd (o := .lst [V.int 60, V.int 60]) nu1
      have hu1 := upd_same (H := H22) (a := u1) (o := .lst [V.int 60, V.int 60])
      generalize upd H22 u1 (.lst [V.int 60, V.int 60]) = H23 at *
      refine ⟨by show 2 ≤ sizeLine; decide, fun u2 nu2 => ?_⟩
      have su2 := same_upd (o := .lst [V.int 60, V.int 60]) nu2
      refine ⟨.list [.int 60, .int 60], .list [.int 60, .int 60], .lst (.inl (.inl (su2 _ _ hu1))) (.cons (.int _) (.cons (.int _) .nil)), .lst (.inl (.inl upd_same)) (.cons (.int _) (.cons (.int _) .nil)), by decide +kernel, by decide +kernel, ?_⟩
      rw [show PyData.eqv (.list [.int 60, .int 60]) (.list [.int 60, .int 60]) = true from by decide +kernel]
      exact q _ (o03.trans (o22.trans (Off.of (su1.trans su2))))
end
end Lw
namespace Lw
open PySem PySem.Spec PyProof.Rows L3
open L2 hiding del del_same del_ne
section
variable {P : Program} {w : World} {K : PySem.W.Frag} {mg : Str → Option Value} {base : Heap}
theorem sq_off {a p : Addr} {xs : List V} {H H3 H' : Hp} (h : SqL K H a xs) (n : H p = none) (s : Same H H3) (o : Off p H3 H') : SqL K H' a xs := by
  rcases h with (h | ⟨o', h⟩) | h
  · exact .inl (.inl (o _ _ (s _ _ h) (ne_of_none h n)))
  · exact .inl (.inr ⟨o', o _ _ (s _ _ h) (ne_of_none h n)⟩)
  · exact .inr h
def spLaw (K : PySem.W.Frag) : Sp := fun vs H Q _ => ∃ (a : Addr) (ns : List Int), vs = [.ref a] ∧ SqL K H a (ns.map V.int) ∧ ∀ H', Q (.bl true) H'
theorem ok_law (T : All K mg) : FnOkG P w K mg base CX0 15 T.f_law T.d_law ["_law_script"] (spLaw K) := by
  refine okG T.law.F sc_law (fun vs H Q E h => ?_) (fun cdv A outer s H vs Q E hr hG h => ?_)
  · obtain ⟨a, ns, rfl, _⟩ := h
    rfl
  · obtain ⟨a, ns, rfl, hS, q⟩ := h
    refine ⟨_, pss_one (ps_ret (pe_callB (cr_all rfl) (by rfl) T.b_all PyProof.Rows.boot_all (pa_cons (pe_lc (own := [("_law_k", 1)]) (g := gName 1) (tt := tYes) rfl sc_law.nd (pi_range1 rfl T.b_range (pa_cons (pe_callB (call_max2 rfl) (by rfl) T.b_max PyProof.Rows.boot_max (pa_cons pe_int (pa_cons (pe_callB (call_min2 rfl) (by rfl) T.b_min PyProof.Rows.boot_min (pa_cons pe_int (pa_cons (pe_callB call_len_seq (by rfl) T.b_len PySem.boot_len (pa_cons (pv 0) pa_nil)) pa_nil))) pa_nil))) pa_nil))
          (blkOk_by (own := [("_law_k", 1)]) (N := ["_law_script", "_law_k"]) (sc := defScope s_law) (by decide +kernel))
          (fun _ _ _ _ _ => pg_name (i := 1) sc_law.nd rfl (by first | exact Or.inl rfl | exact Or.inr rfl)) (fun _ _ _ _ _ => pts_nil)
          (fun _ _ _ _ _ => (pe_callG (ok_law_right T) (hr.mono (by decide)) hG (by rfl) T.law_right.g T.law_right.F.kp T.law_right.b pass0 (pa_cons (pe_call (ok_law_pot T) (hr.mono (by decide)) (by rfl) T.law_pot.g T.law_pot.F.kp T.law_pot.b .nil pass0 (pa_cons (pv 0) (pa_cons (pv 1) pa_nil))) pa_nil)))) pa_nil))), ?_⟩
    refine ⟨_, rfl, a, _, rfl, .inl hS, _, _, rfl, _, _, rfl, ?_⟩
    refine ⟨_, rfl, ?_, ?_, fun D nD => ?_⟩
    · split <;> split <;> omega
    · split <;> split <;> omega
    have hn : ((if (if ((ns.map V.int).length : Int) < 4 then ((ns.map V.int).length : Int) else 4) > 1 then (if ((ns.map V.int).length : Int) < 4 then ((ns.map V.int).length : Int) else 4) else 1) : Int).toNat ≤ 4 := by
      split <;> split <;> omega
    have hAD : (∀ H', SqL K H' a (ns.map V.int)) ∨ a ≠ D := by
      rcases hS with (h | ⟨o', h⟩) | h
      · exact .inr (ne_of_none h nD)
      · exact .inr (ne_of_none h nD)
      · exact .inl fun H' => .inr h
    refine lc_gen2 walk_range (fun H' => SqL K H' a (ns.map V.int)) (fun i acc => acc = List.replicate i (.bl true)) ?_ (fun i acc e => by rw [e]; simp) rfl
      (sq_new hS nD) (fun H' acc acc' hD r => hAD.elim (fun h => h _) (fun n => sq_put r n)) (fun _ _ => trivial) (fun i x H7 H8 acc C N hi r hD ha y c n => ?_) (fun H7 xs r hD ha => ?_)
    · rw [sizeLine_eq]
      exact Nat.le_trans hn (by decide)
    · obtain ⟨rfl, rfl⟩ := y
      have hi2 : i < 4 := Nat.lt_of_lt_of_le hi hn
      refine ⟨rfl, yes_te ?_⟩
      refine ⟨_, rfl, _, rfl, a, ns, i, congrArg (fun z => [V.ref a, V.int z]) (Int.zero_add _), r, by omega, fun H9 p s9 n9 hp9 => ?_⟩
      refine ⟨p, rfl, hp9, fun H10 o10 => ?_⟩
      refine c _ _ (sq_off r n9 s9 o10) (o10 _ _ (s9 _ _ hD) (ne_of_none hD n9)) ?_
      rw [ha, List.replicate_succ']
    · subst ha
      refine ⟨D, List.replicate _ true, rfl, .inl (.inl (by rw [hD, List.map_replicate])), ?_⟩
      rw [all_id_rep]
      exact q _
theorem fin {P : Program} {w : World} {K : PySem.W.Frag} {mg mb : Str → Option Value} {fa fl a : Addr} {s₁ : Shared} {vs : List Value} {ns : List Int}
    (KX : K.In s₁.heap) (hns : s₁.heap.Ns mainGlobals mg) (hb : s₁.heap.Ns builtinsNs mb) (hbb : ∀ x : Str, x ≠ "__name__" → mb x = bootBuiltins x) (hlim : s₁.heap.NoLimit) (hg : s₁.gens = #[])
    (hbm : ∃ (bm : Addr) (ob : Obj), mg "__builtins__" = some (.ref bm) ∧ bm ≠ builtinsNs ∧ s₁.heap.get? bm = some ob ∧ ob.cls = .type "module" ∧ ob.dict = some builtinsNs ∧ ob.data = .plain)
    (ha : s₁.heap.get? a = some { cls := .type "list", data := .seq vs.toArray }) (hi : IntsAre vs ns) (hl : ns.length ≤ sizeLine) (hmg : mg "law" = some (.ref fa))
    (hall : ∃ T : All K mg, T.f_law = fl) :
    codeAny (model P w) callerA (.call (.ref fa) ⟨[.ref a], []⟩) (fun r s' => r = .ok (.ret (.bool true)) ∧ OldK s₁.heap s'.heap ∧ s'.os = s₁.os ∧ AllBare s'.gens) s₁ := by
  obtain ⟨T, _⟩ := hall
  have e : T.f_law = fa := by
    have h := T.law.g
    rw [hmg] at h
    exact (Value.ref.inj (Option.some.inj h)).symm
  rw [← e]
  refine law_callG (cs := []) (k := 15) (sp := spLaw K) KX hns hb hbb hlim hg (fun p hp => nomatch hp) (fun p hp => nomatch hp) (fun p hp => nomatch hp) hbm ha hi hl ⟨rfl, by decide, by decide⟩ (fun base hK hM TB => ok_law T) T.law.b (fun H hH hS => ?_)
  exact ⟨a, ns, rfl, hS, fun H' => rfl⟩
end
end Lw
namespace Lw
open PySem PySem.Spec PyProof.Rows L2 L3
theorem all_mk {K : PySem.W.Frag} {h : Heap} {mg : Str → Option Value} (X : K.In h) (G : h.Ns mainGlobals mg)
    {f_is_list : Addr} {oc_is_list kV_is_list dc_is_list pm_is_list cd_is_list ct_is_list : Value} {od_is_list an_is_list : Option Addr} {sl_is_list : Array (Option Value)}
    (a_is_list : PySem.W.nsIn K mainGlobals "is_list" = some (some (.ref f_is_list))) (l_is_list : K.lookup f_is_list = some ⟨oc_is_list, od_is_list, .func (PySem.W.fnOf "is_list" "is_list" (defArgs s_is_list) (defBody s_is_list) (defScope s_is_list) .none kV_is_list dc_is_list pm_is_list an_is_list cd_is_list ct_is_list), sl_is_list⟩) (e_is_list : PySem.W.codeIn K cd_is_list "is_list" = true) (k_is_list : PySem.W.keepIn K (.ref f_is_list) = true)
    {f_is_text : Addr} {oc_is_text kV_is_text dc_is_text pm_is_text cd_is_text ct_is_text : Value} {od_is_text an_is_text : Option Addr} {sl_is_text : Array (Option Value)}
    (a_is_text : PySem.W.nsIn K mainGlobals "is_text" = some (some (.ref f_is_text))) (l_is_text : K.lookup f_is_text = some ⟨oc_is_text, od_is_text, .func (PySem.W.fnOf "is_text" "is_text" (defArgs s_is_text) (defBody s_is_text) (defScope s_is_text) .none kV_is_text dc_is_text pm_is_text an_is_text cd_is_text ct_is_text), sl_is_text⟩) (e_is_text : PySem.W.codeIn K cd_is_text "is_text" = true) (k_is_text : PySem.W.keepIn K (.ref f_is_text) = true)
    {f_are_letters : Addr} {oc_are_letters kV_are_letters dc_are_letters pm_are_letters cd_are_letters ct_are_letters : Value} {od_are_letters an_are_letters : Option Addr} {sl_are_letters : Array (Option Value)}
    (a_are_letters : PySem.W.nsIn K mainGlobals "are_letters" = some (some (.ref f_are_letters))) (l_are_letters : K.lookup f_are_letters = some ⟨oc_are_letters, od_are_letters, .func (PySem.W.fnOf "are_letters" "are_letters" (defArgs s_are_letters) (defBody s_are_letters) (defScope s_are_letters) .none kV_are_letters dc_are_letters pm_are_letters an_are_letters cd_are_letters ct_are_letters), sl_are_letters⟩) (e_are_letters : PySem.W.codeIn K cd_are_letters "are_letters" = true) (k_are_letters : PySem.W.keepIn K (.ref f_are_letters) = true)
    {f_is_text_over : Addr} {oc_is_text_over kV_is_text_over dc_is_text_over pm_is_text_over cd_is_text_over ct_is_text_over : Value} {od_is_text_over an_is_text_over : Option Addr} {sl_is_text_over : Array (Option Value)}
    (a_is_text_over : PySem.W.nsIn K mainGlobals "is_text_over" = some (some (.ref f_is_text_over))) (l_is_text_over : K.lookup f_is_text_over = some ⟨oc_is_text_over, od_is_text_over, .func (PySem.W.fnOf "is_text_over" "is_text_over" (defArgs s_is_text_over) (defBody s_is_text_over) (defScope s_is_text_over) .none kV_is_text_over dc_is_text_over pm_is_text_over an_is_text_over cd_is_text_over ct_is_text_over), sl_is_text_over⟩) (e_is_text_over : PySem.W.codeIn K cd_is_text_over "is_text_over" = true) (k_is_text_over : PySem.W.keepIn K (.ref f_is_text_over) = true)
    {f_want_few : Addr} {oc_want_few kV_want_few dc_want_few pm_want_few cd_want_few ct_want_few : Value} {od_want_few an_want_few : Option Addr} {sl_want_few : Array (Option Value)}
    (a_want_few : PySem.W.nsIn K mainGlobals "want_few" = some (some (.ref f_want_few))) (l_want_few : K.lookup f_want_few = some ⟨oc_want_few, od_want_few, .func (PySem.W.fnOf "want_few" "want_few" (defArgs s_want_few) (defBody s_want_few) (defScope s_want_few) .none kV_want_few dc_want_few pm_want_few an_want_few cd_want_few ct_want_few), sl_want_few⟩) (e_want_few : PySem.W.codeIn K cd_want_few "want_few" = true) (k_want_few : PySem.W.keepIn K (.ref f_want_few) = true)
    {f_is_star : Addr} {oc_is_star kV_is_star dc_is_star pm_is_star cd_is_star ct_is_star : Value} {od_is_star an_is_star : Option Addr} {sl_is_star : Array (Option Value)}
    (a_is_star : PySem.W.nsIn K mainGlobals "is_star" = some (some (.ref f_is_star))) (l_is_star : K.lookup f_is_star = some ⟨oc_is_star, od_is_star, .func (PySem.W.fnOf "is_star" "is_star" (defArgs s_is_star) (defBody s_is_star) (defScope s_is_star) .none kV_is_star dc_is_star pm_is_star an_is_star cd_is_star ct_is_star), sl_is_star⟩) (e_is_star : PySem.W.codeIn K cd_is_star "is_star" = true) (k_is_star : PySem.W.keepIn K (.ref f_is_star) = true)
    {f_letters_in : Addr} {oc_letters_in kV_letters_in dc_letters_in pm_letters_in cd_letters_in ct_letters_in : Value} {od_letters_in an_letters_in : Option Addr} {sl_letters_in : Array (Option Value)}
    (a_letters_in : PySem.W.nsIn K mainGlobals "letters_in" = some (some (.ref f_letters_in))) (l_letters_in : K.lookup f_letters_in = some ⟨oc_letters_in, od_letters_in, .func (PySem.W.fnOf "letters_in" "letters_in" (defArgs s_letters_in) (defBody s_letters_in) (defScope s_letters_in) .none kV_letters_in dc_letters_in pm_letters_in an_letters_in cd_letters_in ct_letters_in), sl_letters_in⟩) (e_letters_in : PySem.W.codeIn K cd_letters_in "letters_in" = true) (k_letters_in : PySem.W.keepIn K (.ref f_letters_in) = true)
    {f_are_rising : Addr} {oc_are_rising kV_are_rising dc_are_rising pm_are_rising cd_are_rising ct_are_rising : Value} {od_are_rising an_are_rising : Option Addr} {sl_are_rising : Array (Option Value)}
    (a_are_rising : PySem.W.nsIn K mainGlobals "are_rising" = some (some (.ref f_are_rising))) (l_are_rising : K.lookup f_are_rising = some ⟨oc_are_rising, od_are_rising, .func (PySem.W.fnOf "are_rising" "are_rising" (defArgs s_are_rising) (defBody s_are_rising) (defScope s_are_rising) .none kV_are_rising dc_are_rising pm_are_rising an_are_rising cd_are_rising ct_are_rising), sl_are_rising⟩) (e_are_rising : PySem.W.codeIn K cd_are_rising "are_rising" = true) (k_are_rising : PySem.W.keepIn K (.ref f_are_rising) = true)
    {f_is_piece : Addr} {oc_is_piece kV_is_piece dc_is_piece pm_is_piece cd_is_piece ct_is_piece : Value} {od_is_piece an_is_piece : Option Addr} {sl_is_piece : Array (Option Value)}
    (a_is_piece : PySem.W.nsIn K mainGlobals "is_piece" = some (some (.ref f_is_piece))) (l_is_piece : K.lookup f_is_piece = some ⟨oc_is_piece, od_is_piece, .func (PySem.W.fnOf "is_piece" "is_piece" (defArgs s_is_piece) (defBody s_is_piece) (defScope s_is_piece) .none kV_is_piece dc_is_piece pm_is_piece an_is_piece cd_is_piece ct_is_piece), sl_is_piece⟩) (e_is_piece : PySem.W.codeIn K cd_is_piece "is_piece" = true) (k_is_piece : PySem.W.keepIn K (.ref f_is_piece) = true)
    {f_is_product : Addr} {oc_is_product kV_is_product dc_is_product pm_is_product cd_is_product ct_is_product : Value} {od_is_product an_is_product : Option Addr} {sl_is_product : Array (Option Value)}
    (a_is_product : PySem.W.nsIn K mainGlobals "is_product" = some (some (.ref f_is_product))) (l_is_product : K.lookup f_is_product = some ⟨oc_is_product, od_is_product, .func (PySem.W.fnOf "is_product" "is_product" (defArgs s_is_product) (defBody s_is_product) (defScope s_is_product) .none kV_is_product dc_is_product pm_is_product an_is_product cd_is_product ct_is_product), sl_is_product⟩) (e_is_product : PySem.W.codeIn K cd_is_product "is_product" = true) (k_is_product : PySem.W.keepIn K (.ref f_is_product) = true)
    {f_is_product_over : Addr} {oc_is_product_over kV_is_product_over dc_is_product_over pm_is_product_over cd_is_product_over ct_is_product_over : Value} {od_is_product_over an_is_product_over : Option Addr} {sl_is_product_over : Array (Option Value)}
    (a_is_product_over : PySem.W.nsIn K mainGlobals "is_product_over" = some (some (.ref f_is_product_over))) (l_is_product_over : K.lookup f_is_product_over = some ⟨oc_is_product_over, od_is_product_over, .func (PySem.W.fnOf "is_product_over" "is_product_over" (defArgs s_is_product_over) (defBody s_is_product_over) (defScope s_is_product_over) .none kV_is_product_over dc_is_product_over pm_is_product_over an_is_product_over cd_is_product_over ct_is_product_over), sl_is_product_over⟩) (e_is_product_over : PySem.W.codeIn K cd_is_product_over "is_product_over" = true) (k_is_product_over : PySem.W.keepIn K (.ref f_is_product_over) = true)
    {f_holds : Addr} {oc_holds kV_holds dc_holds pm_holds cd_holds ct_holds : Value} {od_holds an_holds : Option Addr} {sl_holds : Array (Option Value)}
    (a_holds : PySem.W.nsIn K mainGlobals "holds" = some (some (.ref f_holds))) (l_holds : K.lookup f_holds = some ⟨oc_holds, od_holds, .func (PySem.W.fnOf "holds" "holds" (defArgs s_holds) (defBody s_holds) (defScope s_holds) .none kV_holds dc_holds pm_holds an_holds cd_holds ct_holds), sl_holds⟩) (e_holds : PySem.W.codeIn K cd_holds "holds" = true) (k_holds : PySem.W.keepIn K (.ref f_holds) = true)
    {f_place_behind : Addr} {oc_place_behind kV_place_behind dc_place_behind pm_place_behind cd_place_behind ct_place_behind : Value} {od_place_behind an_place_behind : Option Addr} {sl_place_behind : Array (Option Value)}
    (a_place_behind : PySem.W.nsIn K mainGlobals "place_behind" = some (some (.ref f_place_behind))) (l_place_behind : K.lookup f_place_behind = some ⟨oc_place_behind, od_place_behind, .func (PySem.W.fnOf "place_behind" "place_behind" (defArgs s_place_behind) (defBody s_place_behind) (defScope s_place_behind) .none kV_place_behind dc_place_behind pm_place_behind an_place_behind cd_place_behind ct_place_behind), sl_place_behind⟩) (e_place_behind : PySem.W.codeIn K cd_place_behind "place_behind" = true) (k_place_behind : PySem.W.keepIn K (.ref f_place_behind) = true)
    {f_place_by : Addr} {oc_place_by kV_place_by dc_place_by pm_place_by cd_place_by ct_place_by : Value} {od_place_by an_place_by : Option Addr} {sl_place_by : Array (Option Value)}
    (a_place_by : PySem.W.nsIn K mainGlobals "place_by" = some (some (.ref f_place_by))) (l_place_by : K.lookup f_place_by = some ⟨oc_place_by, od_place_by, .func (PySem.W.fnOf "place_by" "place_by" (defArgs s_place_by) (defBody s_place_by) (defScope s_place_by) .none kV_place_by dc_place_by pm_place_by an_place_by cd_place_by ct_place_by), sl_place_by⟩) (e_place_by : PySem.W.codeIn K cd_place_by "place_by" = true) (k_place_by : PySem.W.keepIn K (.ref f_place_by) = true)
    {f_has_text : Addr} {oc_has_text kV_has_text dc_has_text pm_has_text cd_has_text ct_has_text : Value} {od_has_text an_has_text : Option Addr} {sl_has_text : Array (Option Value)}
    (a_has_text : PySem.W.nsIn K mainGlobals "has_text" = some (some (.ref f_has_text))) (l_has_text : K.lookup f_has_text = some ⟨oc_has_text, od_has_text, .func (PySem.W.fnOf "has_text" "has_text" (defArgs s_has_text) (defBody s_has_text) (defScope s_has_text) .none kV_has_text dc_has_text pm_has_text an_has_text cd_has_text ct_has_text), sl_has_text⟩) (e_has_text : PySem.W.codeIn K cd_has_text "has_text" = true) (k_has_text : PySem.W.keepIn K (.ref f_has_text) = true)
    {f_lies_within : Addr} {oc_lies_within kV_lies_within dc_lies_within pm_lies_within cd_lies_within ct_lies_within : Value} {od_lies_within an_lies_within : Option Addr} {sl_lies_within : Array (Option Value)}
    (a_lies_within : PySem.W.nsIn K mainGlobals "lies_within" = some (some (.ref f_lies_within))) (l_lies_within : K.lookup f_lies_within = some ⟨oc_lies_within, od_lies_within, .func (PySem.W.fnOf "lies_within" "lies_within" (defArgs s_lies_within) (defBody s_lies_within) (defScope s_lies_within) .none kV_lies_within dc_lies_within pm_lies_within an_lies_within cd_lies_within ct_lies_within), sl_lies_within⟩) (e_lies_within : PySem.W.codeIn K cd_lies_within "lies_within" = true) (k_lies_within : PySem.W.keepIn K (.ref f_lies_within) = true)
    {f_reduced_of : Addr} {oc_reduced_of kV_reduced_of dc_reduced_of pm_reduced_of cd_reduced_of ct_reduced_of : Value} {od_reduced_of an_reduced_of : Option Addr} {sl_reduced_of : Array (Option Value)}
    (a_reduced_of : PySem.W.nsIn K mainGlobals "reduced_of" = some (some (.ref f_reduced_of))) (l_reduced_of : K.lookup f_reduced_of = some ⟨oc_reduced_of, od_reduced_of, .func (PySem.W.fnOf "reduced_of" "reduced_of" (defArgs s_reduced_of) (defBody s_reduced_of) (defScope s_reduced_of) .none kV_reduced_of dc_reduced_of pm_reduced_of an_reduced_of cd_reduced_of ct_reduced_of), sl_reduced_of⟩) (e_reduced_of : PySem.W.codeIn K cd_reduced_of "reduced_of" = true) (k_reduced_of : PySem.W.keepIn K (.ref f_reduced_of) = true)
    {f_kept_of : Addr} {oc_kept_of kV_kept_of dc_kept_of pm_kept_of cd_kept_of ct_kept_of : Value} {od_kept_of an_kept_of : Option Addr} {sl_kept_of : Array (Option Value)}
    (a_kept_of : PySem.W.nsIn K mainGlobals "kept_of" = some (some (.ref f_kept_of))) (l_kept_of : K.lookup f_kept_of = some ⟨oc_kept_of, od_kept_of, .func (PySem.W.fnOf "kept_of" "kept_of" (defArgs s_kept_of) (defBody s_kept_of) (defScope s_kept_of) .none kV_kept_of dc_kept_of pm_kept_of an_kept_of cd_kept_of ct_kept_of), sl_kept_of⟩) (e_kept_of : PySem.W.codeIn K cd_kept_of "kept_of" = true) (k_kept_of : PySem.W.keepIn K (.ref f_kept_of) = true)
    {f_want_letters : Addr} {oc_want_letters kV_want_letters dc_want_letters pm_want_letters cd_want_letters ct_want_letters : Value} {od_want_letters an_want_letters : Option Addr} {sl_want_letters : Array (Option Value)}
    (a_want_letters : PySem.W.nsIn K mainGlobals "want_letters" = some (some (.ref f_want_letters))) (l_want_letters : K.lookup f_want_letters = some ⟨oc_want_letters, od_want_letters, .func (PySem.W.fnOf "want_letters" "want_letters" (defArgs s_want_letters) (defBody s_want_letters) (defScope s_want_letters) .none kV_want_letters dc_want_letters pm_want_letters an_want_letters cd_want_letters ct_want_letters), sl_want_letters⟩) (e_want_letters : PySem.W.codeIn K cd_want_letters "want_letters" = true) (k_want_letters : PySem.W.keepIn K (.ref f_want_letters) = true)
    {f_law_pot : Addr} {oc_law_pot kV_law_pot dc_law_pot pm_law_pot cd_law_pot ct_law_pot : Value} {od_law_pot an_law_pot : Option Addr} {sl_law_pot : Array (Option Value)}
    (a_law_pot : PySem.W.nsIn K mainGlobals "_law_pot" = some (some (.ref f_law_pot))) (l_law_pot : K.lookup f_law_pot = some ⟨oc_law_pot, od_law_pot, .func (PySem.W.fnOf "_law_pot" "_law_pot" (defArgs s_law_pot) (defBody s_law_pot) (defScope s_law_pot) .none kV_law_pot dc_law_pot pm_law_pot an_law_pot cd_law_pot ct_law_pot), sl_law_pot⟩) (e_law_pot : PySem.W.codeIn K cd_law_pot "_law_pot" = true) (k_law_pot : PySem.W.keepIn K (.ref f_law_pot) = true)
    {f_law_draw : Addr} {oc_law_draw kV_law_draw dc_law_draw pm_law_draw cd_law_draw ct_law_draw : Value} {od_law_draw an_law_draw : Option Addr} {sl_law_draw : Array (Option Value)}
    (a_law_draw : PySem.W.nsIn K mainGlobals "_law_draw" = some (some (.ref f_law_draw))) (l_law_draw : K.lookup f_law_draw = some ⟨oc_law_draw, od_law_draw, .func (PySem.W.fnOf "_law_draw" "_law_draw" (defArgs s_law_draw) (defBody s_law_draw) (defScope s_law_draw) .none kV_law_draw dc_law_draw pm_law_draw an_law_draw cd_law_draw ct_law_draw), sl_law_draw⟩) (e_law_draw : PySem.W.codeIn K cd_law_draw "_law_draw" = true) (k_law_draw : PySem.W.keepIn K (.ref f_law_draw) = true)
    {f_law_pick : Addr} {oc_law_pick kV_law_pick dc_law_pick pm_law_pick cd_law_pick ct_law_pick : Value} {od_law_pick an_law_pick : Option Addr} {sl_law_pick : Array (Option Value)}
    (a_law_pick : PySem.W.nsIn K mainGlobals "_law_pick" = some (some (.ref f_law_pick))) (l_law_pick : K.lookup f_law_pick = some ⟨oc_law_pick, od_law_pick, .func (PySem.W.fnOf "_law_pick" "_law_pick" (defArgs s_law_pick) (defBody s_law_pick) (defScope s_law_pick) .none kV_law_pick dc_law_pick pm_law_pick an_law_pick cd_law_pick ct_law_pick), sl_law_pick⟩) (e_law_pick : PySem.W.codeIn K cd_law_pick "_law_pick" = true) (k_law_pick : PySem.W.keepIn K (.ref f_law_pick) = true)
    {f_law_mixed : Addr} {oc_law_mixed kV_law_mixed dc_law_mixed pm_law_mixed cd_law_mixed ct_law_mixed : Value} {od_law_mixed an_law_mixed : Option Addr} {sl_law_mixed : Array (Option Value)}
    (a_law_mixed : PySem.W.nsIn K mainGlobals "_law_mixed" = some (some (.ref f_law_mixed))) (l_law_mixed : K.lookup f_law_mixed = some ⟨oc_law_mixed, od_law_mixed, .func (PySem.W.fnOf "_law_mixed" "_law_mixed" (defArgs s_law_mixed) (defBody s_law_mixed) (defScope s_law_mixed) .none kV_law_mixed dc_law_mixed pm_law_mixed an_law_mixed cd_law_mixed ct_law_mixed), sl_law_mixed⟩) (e_law_mixed : PySem.W.codeIn K cd_law_mixed "_law_mixed" = true) (k_law_mixed : PySem.W.keepIn K (.ref f_law_mixed) = true)
    {f_law_piece : Addr} {oc_law_piece kV_law_piece dc_law_piece pm_law_piece cd_law_piece ct_law_piece : Value} {od_law_piece an_law_piece : Option Addr} {sl_law_piece : Array (Option Value)}
    (a_law_piece : PySem.W.nsIn K mainGlobals "_law_piece" = some (some (.ref f_law_piece))) (l_law_piece : K.lookup f_law_piece = some ⟨oc_law_piece, od_law_piece, .func (PySem.W.fnOf "_law_piece" "_law_piece" (defArgs s_law_piece) (defBody s_law_piece) (defScope s_law_piece) .none kV_law_piece dc_law_piece pm_law_piece an_law_piece cd_law_piece ct_law_piece), sl_law_piece⟩) (e_law_piece : PySem.W.codeIn K cd_law_piece "_law_piece" = true) (k_law_piece : PySem.W.keepIn K (.ref f_law_piece) = true)
    {f_law_bundle : Addr} {oc_law_bundle kV_law_bundle dc_law_bundle pm_law_bundle cd_law_bundle ct_law_bundle : Value} {od_law_bundle an_law_bundle : Option Addr} {sl_law_bundle : Array (Option Value)}
    (a_law_bundle : PySem.W.nsIn K mainGlobals "_law_bundle" = some (some (.ref f_law_bundle))) (l_law_bundle : K.lookup f_law_bundle = some ⟨oc_law_bundle, od_law_bundle, .func (PySem.W.fnOf "_law_bundle" "_law_bundle" (defArgs s_law_bundle) (defBody s_law_bundle) (defScope s_law_bundle) .none kV_law_bundle dc_law_bundle pm_law_bundle an_law_bundle cd_law_bundle ct_law_bundle), sl_law_bundle⟩) (e_law_bundle : PySem.W.codeIn K cd_law_bundle "_law_bundle" = true) (k_law_bundle : PySem.W.keepIn K (.ref f_law_bundle) = true)
    {f_law_signs : Addr} {oc_law_signs kV_law_signs dc_law_signs pm_law_signs cd_law_signs ct_law_signs : Value} {od_law_signs an_law_signs : Option Addr} {sl_law_signs : Array (Option Value)}
    (a_law_signs : PySem.W.nsIn K mainGlobals "_law_signs" = some (some (.ref f_law_signs))) (l_law_signs : K.lookup f_law_signs = some ⟨oc_law_signs, od_law_signs, .func (PySem.W.fnOf "_law_signs" "_law_signs" (defArgs s_law_signs) (defBody s_law_signs) (defScope s_law_signs) .none kV_law_signs dc_law_signs pm_law_signs an_law_signs cd_law_signs ct_law_signs), sl_law_signs⟩) (e_law_signs : PySem.W.codeIn K cd_law_signs "_law_signs" = true) (k_law_signs : PySem.W.keepIn K (.ref f_law_signs) = true)
    {f_law_go : Addr} {oc_law_go kV_law_go dc_law_go pm_law_go cd_law_go ct_law_go : Value} {od_law_go an_law_go : Option Addr} {sl_law_go : Array (Option Value)}
    (a_law_go : PySem.W.nsIn K mainGlobals "_law_go" = some (some (.ref f_law_go))) (l_law_go : K.lookup f_law_go = some ⟨oc_law_go, od_law_go, .func (PySem.W.fnOf "_law_go" "_law_go" (defArgs s_law_go) (defBody s_law_go) (defScope s_law_go) .none kV_law_go dc_law_go pm_law_go an_law_go cd_law_go ct_law_go), sl_law_go⟩) (e_law_go : PySem.W.codeIn K cd_law_go "_law_go" = true) (k_law_go : PySem.W.keepIn K (.ref f_law_go) = true)
    {f_law_next : Addr} {oc_law_next kV_law_next dc_law_next pm_law_next cd_law_next ct_law_next : Value} {od_law_next an_law_next : Option Addr} {sl_law_next : Array (Option Value)}
    (a_law_next : PySem.W.nsIn K mainGlobals "_law_next" = some (some (.ref f_law_next))) (l_law_next : K.lookup f_law_next = some ⟨oc_law_next, od_law_next, .func (PySem.W.fnOf "_law_next" "_law_next" (defArgs s_law_next) (defBody s_law_next) (defScope s_law_next) .none kV_law_next dc_law_next pm_law_next an_law_next cd_law_next ct_law_next), sl_law_next⟩) (e_law_next : PySem.W.codeIn K cd_law_next "_law_next" = true) (k_law_next : PySem.W.keepIn K (.ref f_law_next) = true)
    {f_law_run : Addr} {oc_law_run kV_law_run dc_law_run pm_law_run cd_law_run ct_law_run : Value} {od_law_run an_law_run : Option Addr} {sl_law_run : Array (Option Value)}
    (a_law_run : PySem.W.nsIn K mainGlobals "_law_run" = some (some (.ref f_law_run))) (l_law_run : K.lookup f_law_run = some ⟨oc_law_run, od_law_run, .func (PySem.W.fnOf "_law_run" "_law_run" (defArgs s_law_run) (defBody s_law_run) (defScope s_law_run) .none kV_law_run dc_law_run pm_law_run an_law_run cd_law_run ct_law_run), sl_law_run⟩) (e_law_run : PySem.W.codeIn K cd_law_run "_law_run" = true) (k_law_run : PySem.W.keepIn K (.ref f_law_run) = true)
    {f_law_has : Addr} {oc_law_has kV_law_has dc_law_has pm_law_has cd_law_has ct_law_has : Value} {od_law_has an_law_has : Option Addr} {sl_law_has : Array (Option Value)}
    (a_law_has : PySem.W.nsIn K mainGlobals "_law_has" = some (some (.ref f_law_has))) (l_law_has : K.lookup f_law_has = some ⟨oc_law_has, od_law_has, .func (PySem.W.fnOf "_law_has" "_law_has" (defArgs s_law_has) (defBody s_law_has) (defScope s_law_has) .none kV_law_has dc_law_has pm_law_has an_law_has cd_law_has ct_law_has), sl_law_has⟩) (e_law_has : PySem.W.codeIn K cd_law_has "_law_has" = true) (k_law_has : PySem.W.keepIn K (.ref f_law_has) = true)
    {f_law_hits : Addr} {oc_law_hits kV_law_hits dc_law_hits pm_law_hits cd_law_hits ct_law_hits : Value} {od_law_hits an_law_hits : Option Addr} {sl_law_hits : Array (Option Value)}
    (a_law_hits : PySem.W.nsIn K mainGlobals "_law_hits" = some (some (.ref f_law_hits))) (l_law_hits : K.lookup f_law_hits = some ⟨oc_law_hits, od_law_hits, .func (PySem.W.fnOf "_law_hits" "_law_hits" (defArgs s_law_hits) (defBody s_law_hits) (defScope s_law_hits) .none kV_law_hits dc_law_hits pm_law_hits an_law_hits cd_law_hits ct_law_hits), sl_law_hits⟩) (e_law_hits : PySem.W.codeIn K cd_law_hits "_law_hits" = true) (k_law_hits : PySem.W.keepIn K (.ref f_law_hits) = true)
    {f_law_apart : Addr} {oc_law_apart kV_law_apart dc_law_apart pm_law_apart cd_law_apart ct_law_apart : Value} {od_law_apart an_law_apart : Option Addr} {sl_law_apart : Array (Option Value)}
    (a_law_apart : PySem.W.nsIn K mainGlobals "_law_apart" = some (some (.ref f_law_apart))) (l_law_apart : K.lookup f_law_apart = some ⟨oc_law_apart, od_law_apart, .func (PySem.W.fnOf "_law_apart" "_law_apart" (defArgs s_law_apart) (defBody s_law_apart) (defScope s_law_apart) .none kV_law_apart dc_law_apart pm_law_apart an_law_apart cd_law_apart ct_law_apart), sl_law_apart⟩) (e_law_apart : PySem.W.codeIn K cd_law_apart "_law_apart" = true) (k_law_apart : PySem.W.keepIn K (.ref f_law_apart) = true)
    {f_law_idle : Addr} {oc_law_idle kV_law_idle dc_law_idle pm_law_idle cd_law_idle ct_law_idle : Value} {od_law_idle an_law_idle : Option Addr} {sl_law_idle : Array (Option Value)}
    (a_law_idle : PySem.W.nsIn K mainGlobals "_law_idle" = some (some (.ref f_law_idle))) (l_law_idle : K.lookup f_law_idle = some ⟨oc_law_idle, od_law_idle, .func (PySem.W.fnOf "_law_idle" "_law_idle" (defArgs s_law_idle) (defBody s_law_idle) (defScope s_law_idle) .none kV_law_idle dc_law_idle pm_law_idle an_law_idle cd_law_idle ct_law_idle), sl_law_idle⟩) (e_law_idle : PySem.W.codeIn K cd_law_idle "_law_idle" = true) (k_law_idle : PySem.W.keepIn K (.ref f_law_idle) = true)
    {f_law_reduced : Addr} {oc_law_reduced kV_law_reduced dc_law_reduced pm_law_reduced cd_law_reduced ct_law_reduced : Value} {od_law_reduced an_law_reduced : Option Addr} {sl_law_reduced : Array (Option Value)}
    (a_law_reduced : PySem.W.nsIn K mainGlobals "_law_reduced" = some (some (.ref f_law_reduced))) (l_law_reduced : K.lookup f_law_reduced = some ⟨oc_law_reduced, od_law_reduced, .func (PySem.W.fnOf "_law_reduced" "_law_reduced" (defArgs s_law_reduced) (defBody s_law_reduced) (defScope s_law_reduced) .none kV_law_reduced dc_law_reduced pm_law_reduced an_law_reduced cd_law_reduced ct_law_reduced), sl_law_reduced⟩) (e_law_reduced : PySem.W.codeIn K cd_law_reduced "_law_reduced" = true) (k_law_reduced : PySem.W.keepIn K (.ref f_law_reduced) = true)
    {f_law_kept : Addr} {oc_law_kept kV_law_kept dc_law_kept pm_law_kept cd_law_kept ct_law_kept : Value} {od_law_kept an_law_kept : Option Addr} {sl_law_kept : Array (Option Value)}
    (a_law_kept : PySem.W.nsIn K mainGlobals "_law_kept" = some (some (.ref f_law_kept))) (l_law_kept : K.lookup f_law_kept = some ⟨oc_law_kept, od_law_kept, .func (PySem.W.fnOf "_law_kept" "_law_kept" (defArgs s_law_kept) (defBody s_law_kept) (defScope s_law_kept) .none kV_law_kept dc_law_kept pm_law_kept an_law_kept cd_law_kept ct_law_kept), sl_law_kept⟩) (e_law_kept : PySem.W.codeIn K cd_law_kept "_law_kept" = true) (k_law_kept : PySem.W.keepIn K (.ref f_law_kept) = true)
    {f_law_texts : Addr} {oc_law_texts kV_law_texts dc_law_texts pm_law_texts cd_law_texts ct_law_texts : Value} {od_law_texts an_law_texts : Option Addr} {sl_law_texts : Array (Option Value)}
    (a_law_texts : PySem.W.nsIn K mainGlobals "_law_texts" = some (some (.ref f_law_texts))) (l_law_texts : K.lookup f_law_texts = some ⟨oc_law_texts, od_law_texts, .func (PySem.W.fnOf "_law_texts" "_law_texts" (defArgs s_law_texts) (defBody s_law_texts) (defScope s_law_texts) .none kV_law_texts dc_law_texts pm_law_texts an_law_texts cd_law_texts ct_law_texts), sl_law_texts⟩) (e_law_texts : PySem.W.codeIn K cd_law_texts "_law_texts" = true) (k_law_texts : PySem.W.keepIn K (.ref f_law_texts) = true)
    {f_law_some : Addr} {oc_law_some kV_law_some dc_law_some pm_law_some cd_law_some ct_law_some : Value} {od_law_some an_law_some : Option Addr} {sl_law_some : Array (Option Value)}
    (a_law_some : PySem.W.nsIn K mainGlobals "_law_some" = some (some (.ref f_law_some))) (l_law_some : K.lookup f_law_some = some ⟨oc_law_some, od_law_some, .func (PySem.W.fnOf "_law_some" "_law_some" (defArgs s_law_some) (defBody s_law_some) (defScope s_law_some) .none kV_law_some dc_law_some pm_law_some an_law_some cd_law_some ct_law_some), sl_law_some⟩) (e_law_some : PySem.W.codeIn K cd_law_some "_law_some" = true) (k_law_some : PySem.W.keepIn K (.ref f_law_some) = true)
    {f_law_padded : Addr} {oc_law_padded kV_law_padded dc_law_padded pm_law_padded cd_law_padded ct_law_padded : Value} {od_law_padded an_law_padded : Option Addr} {sl_law_padded : Array (Option Value)}
    (a_law_padded : PySem.W.nsIn K mainGlobals "_law_padded" = some (some (.ref f_law_padded))) (l_law_padded : K.lookup f_law_padded = some ⟨oc_law_padded, od_law_padded, .func (PySem.W.fnOf "_law_padded" "_law_padded" (defArgs s_law_padded) (defBody s_law_padded) (defScope s_law_padded) .none kV_law_padded dc_law_padded pm_law_padded an_law_padded cd_law_padded ct_law_padded), sl_law_padded⟩) (e_law_padded : PySem.W.codeIn K cd_law_padded "_law_padded" = true) (k_law_padded : PySem.W.keepIn K (.ref f_law_padded) = true)
    {f_law_told_right : Addr} {oc_law_told_right kV_law_told_right dc_law_told_right pm_law_told_right cd_law_told_right ct_law_told_right : Value} {od_law_told_right an_law_told_right : Option Addr} {sl_law_told_right : Array (Option Value)}
    (a_law_told_right : PySem.W.nsIn K mainGlobals "_law_told_right" = some (some (.ref f_law_told_right))) (l_law_told_right : K.lookup f_law_told_right = some ⟨oc_law_told_right, od_law_told_right, .func (PySem.W.fnOf "_law_told_right" "_law_told_right" (defArgs s_law_told_right) (defBody s_law_told_right) (defScope s_law_told_right) .none kV_law_told_right dc_law_told_right pm_law_told_right an_law_told_right cd_law_told_right ct_law_told_right), sl_law_told_right⟩) (e_law_told_right : PySem.W.codeIn K cd_law_told_right "_law_told_right" = true) (k_law_told_right : PySem.W.keepIn K (.ref f_law_told_right) = true)
    {f_law_in_right : Addr} {oc_law_in_right kV_law_in_right dc_law_in_right pm_law_in_right cd_law_in_right ct_law_in_right : Value} {od_law_in_right an_law_in_right : Option Addr} {sl_law_in_right : Array (Option Value)}
    (a_law_in_right : PySem.W.nsIn K mainGlobals "_law_in_right" = some (some (.ref f_law_in_right))) (l_law_in_right : K.lookup f_law_in_right = some ⟨oc_law_in_right, od_law_in_right, .func (PySem.W.fnOf "_law_in_right" "_law_in_right" (defArgs s_law_in_right) (defBody s_law_in_right) (defScope s_law_in_right) .none kV_law_in_right dc_law_in_right pm_law_in_right an_law_in_right cd_law_in_right ct_law_in_right), sl_law_in_right⟩) (e_law_in_right : PySem.W.codeIn K cd_law_in_right "_law_in_right" = true) (k_law_in_right : PySem.W.keepIn K (.ref f_law_in_right) = true)
    {f_law_again_right : Addr} {oc_law_again_right kV_law_again_right dc_law_again_right pm_law_again_right cd_law_again_right ct_law_again_right : Value} {od_law_again_right an_law_again_right : Option Addr} {sl_law_again_right : Array (Option Value)}
    (a_law_again_right : PySem.W.nsIn K mainGlobals "_law_again_right" = some (some (.ref f_law_again_right))) (l_law_again_right : K.lookup f_law_again_right = some ⟨oc_law_again_right, od_law_again_right, .func (PySem.W.fnOf "_law_again_right" "_law_again_right" (defArgs s_law_again_right) (defBody s_law_again_right) (defScope s_law_again_right) .none kV_law_again_right dc_law_again_right pm_law_again_right an_law_again_right cd_law_again_right ct_law_again_right), sl_law_again_right⟩) (e_law_again_right : PySem.W.codeIn K cd_law_again_right "_law_again_right" = true) (k_law_again_right : PySem.W.keepIn K (.ref f_law_again_right) = true)
    {f_law_two_right : Addr} {oc_law_two_right kV_law_two_right dc_law_two_right pm_law_two_right cd_law_two_right ct_law_two_right : Value} {od_law_two_right an_law_two_right : Option Addr} {sl_law_two_right : Array (Option Value)}
    (a_law_two_right : PySem.W.nsIn K mainGlobals "_law_two_right" = some (some (.ref f_law_two_right))) (l_law_two_right : K.lookup f_law_two_right = some ⟨oc_law_two_right, od_law_two_right, .func (PySem.W.fnOf "_law_two_right" "_law_two_right" (defArgs s_law_two_right) (defBody s_law_two_right) (defScope s_law_two_right) .none kV_law_two_right dc_law_two_right pm_law_two_right an_law_two_right cd_law_two_right ct_law_two_right), sl_law_two_right⟩) (e_law_two_right : PySem.W.codeIn K cd_law_two_right "_law_two_right" = true) (k_law_two_right : PySem.W.keepIn K (.ref f_law_two_right) = true)
    {f_law_right : Addr} {oc_law_right kV_law_right dc_law_right pm_law_right cd_law_right ct_law_right : Value} {od_law_right an_law_right : Option Addr} {sl_law_right : Array (Option Value)}
    (a_law_right : PySem.W.nsIn K mainGlobals "_law_right" = some (some (.ref f_law_right))) (l_law_right : K.lookup f_law_right = some ⟨oc_law_right, od_law_right, .func (PySem.W.fnOf "_law_right" "_law_right" (defArgs s_law_right) (defBody s_law_right) (defScope s_law_right) .none kV_law_right dc_law_right pm_law_right an_law_right cd_law_right ct_law_right), sl_law_right⟩) (e_law_right : PySem.W.codeIn K cd_law_right "_law_right" = true) (k_law_right : PySem.W.keepIn K (.ref f_law_right) = true)
    {f_law : Addr} {oc_law kV_law dc_law pm_law cd_law ct_law : Value} {od_law an_law : Option Addr} {sl_law : Array (Option Value)}
    (a_law : PySem.W.nsIn K mainGlobals "law" = some (some (.ref f_law))) (l_law : K.lookup f_law = some ⟨oc_law, od_law, .func (PySem.W.fnOf "law" "law" (defArgs s_law) (defBody s_law) (defScope s_law) .none kV_law dc_law pm_law an_law cd_law ct_law), sl_law⟩) (e_law : PySem.W.codeIn K cd_law "law" = true) (k_law : PySem.W.keepIn K (.ref f_law) = true)
    {C_Sum : Addr} (a_Sum : PySem.W.nsIn K mainGlobals "Sum" = some (some (.ref C_Sum))) (pg_Sum : PySem.W.plainGet K C_Sum Str.empty = true) (hd_Sum : PySem.W.hasDictIn K C_Sum = true) (po_Sum : PySem.W.plainOver K C_Sum = true) (sa_Sum : PySem.W.findIn K (.ref C_Sum) "__setattr__" = some (some (.builtin "object.__setattr__"))) (mk_Sum : PySem.W.makesIn K C_Sum = true) (kc_Sum : PySem.W.keepIn K (.ref C_Sum) = true)
    (ca_Sum : PySem.W.findIn K (.ref C_Sum) "__class__" = some (some (.builtin "object.__class__"))) (cg_Sum : PySem.W.specialIn K (.builtin "object.__class__") "__get__" = some (some (.builtin "getset_descriptor.__get__"))) (ct_Sum : PySem.W.takesIn K (.builtin "object.__class__") = some true) (ne_Sum : PySem.W.findIn K (.ref C_Sum) "__ne__" = some (some (.builtin "object.__ne__"))) (tt_Sum : PySem.W.typeIn K (.ref C_Sum) = some (.type "type")) (cr_Sum : PySem.W.readsIn K C_Sum (.type "type") = true) (ck_Sum : PySem.W.specialIn K (.ref C_Sum) "__getattribute__" = some (some (.builtin "type.__getattribute__")))
    (ns_Sum : PySem.W.mroIn K C_Sum (.type "str") = some false)
    {u_Sum_MOST_PRODUCTS : Tok} (cv_Sum_MOST_PRODUCTS : PySem.W.findCls K (.ref C_Sum) (.type "type") "MOST_PRODUCTS" = some (.val (.int 60 u_Sum_MOST_PRODUCTS)))
    (nf_Sum_own_letters : PySem.W.findIn K (.ref C_Sum) "own_letters" = some none)
    (nf_Sum_own_products : PySem.W.findIn K (.ref C_Sum) "own_products" = some none)
    {t_Sum_MOST_PRODUCTS : Tok} (ka_Sum_MOST_PRODUCTS : PySem.W.findIn K (.ref C_Sum) "MOST_PRODUCTS" = some (some (.int 60 t_Sum_MOST_PRODUCTS))) (kg_Sum_MOST_PRODUCTS : PySem.W.specialIn K (.int 60 t_Sum_MOST_PRODUCTS) "__get__" = some none)
    {f_Sum_init : Addr} {oc_Sum_init kV_Sum_init dc_Sum_init pm_Sum_init cd_Sum_init ct_Sum_init : Value} {od_Sum_init an_Sum_init : Option Addr} {sl_Sum_init : Array (Option Value)}
    (a_Sum_init : PySem.W.findIn K (.ref C_Sum) "__init__" = some (some (.ref f_Sum_init))) (i_Sum_init : PySem.W.isFn K (.ref f_Sum_init) = true)
    (l_Sum_init : K.lookup f_Sum_init = some ⟨oc_Sum_init, od_Sum_init, .func (PySem.W.fnOf "__init__" "Sum.__init__" (defArgs s_Sum_init) (defBody s_Sum_init) (defScope s_Sum_init) .none kV_Sum_init dc_Sum_init pm_Sum_init an_Sum_init cd_Sum_init ct_Sum_init), sl_Sum_init⟩) (e_Sum_init : PySem.W.codeIn K cd_Sum_init "Sum.__init__" = true) (k_Sum_init : PySem.W.keepIn K (.ref f_Sum_init) = true)
    {f_Sum_products : Addr} {oc_Sum_products kV_Sum_products dc_Sum_products pm_Sum_products cd_Sum_products ct_Sum_products : Value} {od_Sum_products an_Sum_products : Option Addr} {sl_Sum_products : Array (Option Value)}
    (a_Sum_products : PySem.W.findIn K (.ref C_Sum) "products" = some (some (.ref f_Sum_products))) (i_Sum_products : PySem.W.isFn K (.ref f_Sum_products) = true)
    (l_Sum_products : K.lookup f_Sum_products = some ⟨oc_Sum_products, od_Sum_products, .func (PySem.W.fnOf "products" "Sum.products" (defArgs s_Sum_products) (defBody s_Sum_products) (defScope s_Sum_products) .none kV_Sum_products dc_Sum_products pm_Sum_products an_Sum_products cd_Sum_products ct_Sum_products), sl_Sum_products⟩) (e_Sum_products : PySem.W.codeIn K cd_Sum_products "Sum.products" = true) (k_Sum_products : PySem.W.keepIn K (.ref f_Sum_products) = true)
    {f_Sum_contains : Addr} {oc_Sum_contains kV_Sum_contains dc_Sum_contains pm_Sum_contains cd_Sum_contains ct_Sum_contains : Value} {od_Sum_contains an_Sum_contains : Option Addr} {sl_Sum_contains : Array (Option Value)}
    (a_Sum_contains : PySem.W.findIn K (.ref C_Sum) "__contains__" = some (some (.ref f_Sum_contains))) (i_Sum_contains : PySem.W.isFn K (.ref f_Sum_contains) = true)
    (l_Sum_contains : K.lookup f_Sum_contains = some ⟨oc_Sum_contains, od_Sum_contains, .func (PySem.W.fnOf "__contains__" "Sum.__contains__" (defArgs s_Sum_contains) (defBody s_Sum_contains) (defScope s_Sum_contains) .none kV_Sum_contains dc_Sum_contains pm_Sum_contains an_Sum_contains cd_Sum_contains ct_Sum_contains), sl_Sum_contains⟩) (e_Sum_contains : PySem.W.codeIn K cd_Sum_contains "Sum.__contains__" = true) (k_Sum_contains : PySem.W.keepIn K (.ref f_Sum_contains) = true)
    {f_Sum_len : Addr} {oc_Sum_len kV_Sum_len dc_Sum_len pm_Sum_len cd_Sum_len ct_Sum_len : Value} {od_Sum_len an_Sum_len : Option Addr} {sl_Sum_len : Array (Option Value)}
    (a_Sum_len : PySem.W.findIn K (.ref C_Sum) "__len__" = some (some (.ref f_Sum_len))) (i_Sum_len : PySem.W.isFn K (.ref f_Sum_len) = true)
    (l_Sum_len : K.lookup f_Sum_len = some ⟨oc_Sum_len, od_Sum_len, .func (PySem.W.fnOf "__len__" "Sum.__len__" (defArgs s_Sum_len) (defBody s_Sum_len) (defScope s_Sum_len) .none kV_Sum_len dc_Sum_len pm_Sum_len an_Sum_len cd_Sum_len ct_Sum_len), sl_Sum_len⟩) (e_Sum_len : PySem.W.codeIn K cd_Sum_len "Sum.__len__" = true) (k_Sum_len : PySem.W.keepIn K (.ref f_Sum_len) = true)
    {f_Sum_eq : Addr} {oc_Sum_eq kV_Sum_eq dc_Sum_eq pm_Sum_eq cd_Sum_eq ct_Sum_eq : Value} {od_Sum_eq an_Sum_eq : Option Addr} {sl_Sum_eq : Array (Option Value)}
    (a_Sum_eq : PySem.W.findIn K (.ref C_Sum) "__eq__" = some (some (.ref f_Sum_eq))) (i_Sum_eq : PySem.W.isFn K (.ref f_Sum_eq) = true)
    (l_Sum_eq : K.lookup f_Sum_eq = some ⟨oc_Sum_eq, od_Sum_eq, .func (PySem.W.fnOf "__eq__" "Sum.__eq__" (defArgs s_Sum_eq) (defBody s_Sum_eq) (defScope s_Sum_eq) .none kV_Sum_eq dc_Sum_eq pm_Sum_eq an_Sum_eq cd_Sum_eq ct_Sum_eq), sl_Sum_eq⟩) (e_Sum_eq : PySem.W.codeIn K cd_Sum_eq "Sum.__eq__" = true) (k_Sum_eq : PySem.W.keepIn K (.ref f_Sum_eq) = true)
    {f_Sum_repr : Addr} {oc_Sum_repr kV_Sum_repr dc_Sum_repr pm_Sum_repr cd_Sum_repr ct_Sum_repr : Value} {od_Sum_repr an_Sum_repr : Option Addr} {sl_Sum_repr : Array (Option Value)}
    (a_Sum_repr : PySem.W.findIn K (.ref C_Sum) "__repr__" = some (some (.ref f_Sum_repr))) (i_Sum_repr : PySem.W.isFn K (.ref f_Sum_repr) = true)
    (l_Sum_repr : K.lookup f_Sum_repr = some ⟨oc_Sum_repr, od_Sum_repr, .func (PySem.W.fnOf "__repr__" "Sum.__repr__" (defArgs s_Sum_repr) (defBody s_Sum_repr) (defScope s_Sum_repr) .none kV_Sum_repr dc_Sum_repr pm_Sum_repr an_Sum_repr cd_Sum_repr ct_Sum_repr), sl_Sum_repr⟩) (e_Sum_repr : PySem.W.codeIn K cd_Sum_repr "Sum.__repr__" = true) (k_Sum_repr : PySem.W.keepIn K (.ref f_Sum_repr) = true)
    {f_Sum_letters : Addr} {oc_Sum_letters kV_Sum_letters dc_Sum_letters pm_Sum_letters cd_Sum_letters ct_Sum_letters : Value} {od_Sum_letters an_Sum_letters : Option Addr} {sl_Sum_letters : Array (Option Value)}
    {p_Sum_letters : Addr} {rest_Sum_letters : List Value} (a_Sum_letters : PySem.W.findIn K (.ref C_Sum) "letters" = some (some (.ref p_Sum_letters))) (pg_Sum_letters : PySem.W.specialIn K (.ref p_Sum_letters) "__get__" = some (some (.builtin "property.__get__"))) (pt_Sum_letters : PySem.W.takesIn K (.ref p_Sum_letters) = some true) (pr_Sum_letters : PySem.W.recIn K p_Sum_letters "property" = some (.ref f_Sum_letters :: rest_Sum_letters))
    (l_Sum_letters : K.lookup f_Sum_letters = some ⟨oc_Sum_letters, od_Sum_letters, .func (PySem.W.fnOf "letters" "Sum.letters" (defArgs s_Sum_letters) (defBody s_Sum_letters) (defScope s_Sum_letters) .none kV_Sum_letters dc_Sum_letters pm_Sum_letters an_Sum_letters cd_Sum_letters ct_Sum_letters), sl_Sum_letters⟩) (e_Sum_letters : PySem.W.codeIn K cd_Sum_letters "Sum.letters" = true) (k_Sum_letters : PySem.W.keepIn K (.ref f_Sum_letters) = true)
    (z_abs : PySem.W.nsIn K mainGlobals "abs" = some none)
    (z_all : PySem.W.nsIn K mainGlobals "all" = some none)
    (z_any : PySem.W.nsIn K mainGlobals "any" = some none)
    (z_dict : PySem.W.nsIn K mainGlobals "dict" = some none)
    (z_divmod : PySem.W.nsIn K mainGlobals "divmod" = some none)
    (z_enumerate : PySem.W.nsIn K mainGlobals "enumerate" = some none)
    (z_int : PySem.W.nsIn K mainGlobals "int" = some none)
    (z_isinstance : PySem.W.nsIn K mainGlobals "isinstance" = some none)
    (z_len : PySem.W.nsIn K mainGlobals "len" = some none)
    (z_list : PySem.W.nsIn K mainGlobals "list" = some none)
    (z_max : PySem.W.nsIn K mainGlobals "max" = some none)
    (z_min : PySem.W.nsIn K mainGlobals "min" = some none)
    (z_property : PySem.W.nsIn K mainGlobals "property" = some none)
    (z_range : PySem.W.nsIn K mainGlobals "range" = some none)
    (z_repr : PySem.W.nsIn K mainGlobals "repr" = some none)
    (z_set : PySem.W.nsIn K mainGlobals "set" = some none)
    (z_sorted : PySem.W.nsIn K mainGlobals "sorted" = some none)
    (z_str : PySem.W.nsIn K mainGlobals "str" = some none)
    (z_tuple : PySem.W.nsIn K mainGlobals "tuple" = some none)
    (z_zip : PySem.W.nsIn K mainGlobals "zip" = some none)
    {t_SMALL_basics : Tok} (y_SMALL_basics : PySem.W.nsIn K mainGlobals "SMALL_basics" = some (some (.str "abcdefghijklmnopqrstuvwxyz" t_SMALL_basics)))
    {t_MOST_LETTERS : Tok} (y_MOST_LETTERS : PySem.W.nsIn K mainGlobals "MOST_LETTERS" = some (some (.int 3 t_MOST_LETTERS)))
    {t_SMALL_products : Tok} (y_SMALL_products : PySem.W.nsIn K mainGlobals "SMALL_products" = some (some (.str "abcdefghijklmnopqrstuvwxyz" t_SMALL_products)))
    {t_STAR : Tok} (y_STAR : PySem.W.nsIn K mainGlobals "STAR" = some (some (.str "*" t_STAR)))
    {t_MOST_IN_STAR : Tok} (y_MOST_IN_STAR : PySem.W.nsIn K mainGlobals "MOST_IN_STAR" = some (some (.int 3 t_MOST_IN_STAR)))
    {t_MOST_PIECES : Tok} (y_MOST_PIECES : PySem.W.nsIn K mainGlobals "MOST_PIECES" = some (some (.int 12 t_MOST_PIECES)))
    {t_LOST : Tok} (y_LOST : PySem.W.nsIn K mainGlobals "LOST" = some (some (.int (-1) t_LOST)))
    {t_MOST_PARTS_LETTERS : Tok} (y_MOST_PARTS_LETTERS : PySem.W.nsIn K mainGlobals "MOST_PARTS_LETTERS" = some (some (.int 60 t_MOST_PARTS_LETTERS)))
    : ∃ T : All K mg, T.f_law = f_law := by
  have F_is_list := fun_mk (st := s_is_list) l_is_list e_is_list k_is_list
  have B_is_list := F_is_list.binds (ps := ["value"]) fun _ _ _ _ _ _ us hl => match us, hl with | [_], _ => rfl
  have F_is_text := fun_mk (st := s_is_text) l_is_text e_is_text k_is_text
  have B_is_text := F_is_text.binds (ps := ["value"]) fun _ _ _ _ _ _ us hl => match us, hl with | [_], _ => rfl
  have F_are_letters := fun_mk (st := s_are_letters) l_are_letters e_are_letters k_are_letters
  have B_are_letters := F_are_letters.binds (ps := ["value"]) fun _ _ _ _ _ _ us hl => match us, hl with | [_], _ => rfl
  have F_is_text_over := fun_mk (st := s_is_text_over) l_is_text_over e_is_text_over k_is_text_over
  have B_is_text_over := F_is_text_over.binds (ps := ["letters", "value"]) fun _ _ _ _ _ _ us hl => match us, hl with | [_, _], _ => rfl
  have F_want_few := fun_mk (st := s_want_few) l_want_few e_want_few k_want_few
  have B_want_few := F_want_few.binds (ps := ["what", "many", "limit"]) fun _ _ _ _ _ _ us hl => match us, hl with | [_, _, _], _ => rfl
  have F_is_star := fun_mk (st := s_is_star) l_is_star e_is_star k_is_star
  have B_is_star := F_is_star.binds (ps := ["piece"]) fun _ _ _ _ _ _ us hl => match us, hl with | [_], _ => rfl
  have F_letters_in := fun_mk (st := s_letters_in) l_letters_in e_letters_in k_letters_in
  have B_letters_in := F_letters_in.binds (ps := ["piece"]) fun _ _ _ _ _ _ us hl => match us, hl with | [_], _ => rfl
  have F_are_rising := fun_mk (st := s_are_rising) l_are_rising e_are_rising k_are_rising
  have B_are_rising := F_are_rising.binds (ps := ["letters"]) fun _ _ _ _ _ _ us hl => match us, hl with | [_], _ => rfl
  have F_is_piece := fun_mk (st := s_is_piece) l_is_piece e_is_piece k_is_piece
  have B_is_piece := F_is_piece.binds (ps := ["value"]) fun _ _ _ _ _ _ us hl => match us, hl with | [_], _ => rfl
  have F_is_product := fun_mk (st := s_is_product) l_is_product e_is_product k_is_product
  have B_is_product := F_is_product.binds (ps := ["value"]) fun _ _ _ _ _ _ us hl => match us, hl with | [_], _ => rfl
  have F_is_product_over := fun_mk (st := s_is_product_over) l_is_product_over e_is_product_over k_is_product_over
  have B_is_product_over := F_is_product_over.binds (ps := ["letters", "value"]) fun _ _ _ _ _ _ us hl => match us, hl with | [_, _], _ => rfl
  have F_holds := fun_mk (st := s_holds) l_holds e_holds k_holds
  have B_holds := F_holds.binds (ps := ["piece", "other"]) fun _ _ _ _ _ _ us hl => match us, hl with | [_, _], _ => rfl
  have F_place_behind := fun_mk (st := s_place_behind) l_place_behind e_place_behind k_place_behind
  have B_place_behind := F_place_behind.binds (ps := ["product", "place", "piece"]) fun _ _ _ _ _ _ us hl => match us, hl with | [_, _, _], _ => rfl
  have F_place_by := fun_mk (st := s_place_by) l_place_by e_place_by k_place_by
  have B_place_by := F_place_by.binds (ps := ["product", "place", "pieces"]) fun _ _ _ _ _ _ us hl => match us, hl with | [_, _, _], _ => rfl
  have F_has_text := fun_mk (st := s_has_text) l_has_text e_has_text k_has_text
  have B_has_text := F_has_text.binds (ps := ["product", "text"]) fun _ _ _ _ _ _ us hl => match us, hl with | [_, _], _ => rfl
  have F_lies_within := fun_mk (st := s_lies_within) l_lies_within e_lies_within k_lies_within
  have B_lies_within := F_lies_within.binds (ps := ["one", "other"]) fun _ _ _ _ _ _ us hl => match us, hl with | [_, _], _ => rfl
  have F_reduced_of := fun_mk (st := s_reduced_of) l_reduced_of e_reduced_of k_reduced_of
  have B_reduced_of := F_reduced_of.binds (ps := ["product"]) fun _ _ _ _ _ _ us hl => match us, hl with | [_], _ => rfl
  have F_kept_of := fun_mk (st := s_kept_of) l_kept_of e_kept_of k_kept_of
  have B_kept_of := F_kept_of.binds (ps := ["products"]) fun _ _ _ _ _ _ us hl => match us, hl with | [_], _ => rfl
  have F_want_letters := fun_mk (st := s_want_letters) l_want_letters e_want_letters k_want_letters
  have B_want_letters := F_want_letters.binds (ps := ["letters"]) fun _ _ _ _ _ _ us hl => match us, hl with | [_], _ => rfl
  have F_law_pot := fun_mk (st := s_law_pot) l_law_pot e_law_pot k_law_pot
  have B_law_pot := F_law_pot.binds (ps := ["_law_script", "_law_k"]) fun _ _ _ _ _ _ us hl => match us, hl with | [_, _], _ => rfl
  have F_law_draw := fun_mk (st := s_law_draw) l_law_draw e_law_draw k_law_draw
  have B_law_draw := F_law_draw.binds (ps := ["_law_pot_here", "_law_sides"]) fun _ _ _ _ _ _ us hl => match us, hl with | [_, _], _ => rfl
  have F_law_pick := fun_mk (st := s_law_pick) l_law_pick e_law_pick k_law_pick
  have B_law_pick := F_law_pick.binds (ps := ["_law_pot_here", "_law_some_here"]) fun _ _ _ _ _ _ us hl => match us, hl with | [_, _], _ => rfl
  have F_law_mixed := fun_mk (st := s_law_mixed) l_law_mixed e_law_mixed k_law_mixed
  have B_law_mixed := F_law_mixed.binds (ps := ["_law_pot_here", "_law_some_here"]) fun _ _ _ _ _ _ us hl => match us, hl with | [_, _], _ => rfl
  have F_law_piece := fun_mk (st := s_law_piece) l_law_piece e_law_piece k_law_piece
  have B_law_piece := F_law_piece.binds (ps := ["_law_pot_here", "_law_signs_here"]) fun _ _ _ _ _ _ us hl => match us, hl with | [_, _], _ => rfl
  have F_law_bundle := fun_mk (st := s_law_bundle) l_law_bundle e_law_bundle k_law_bundle
  have B_law_bundle := F_law_bundle.binds (ps := ["_law_pot_here", "_law_signs_here", "_law_most"]) fun _ _ _ _ _ _ us hl => match us, hl with | [_, _, _], _ => rfl
  have F_law_signs := fun_mk (st := s_law_signs) l_law_signs e_law_signs k_law_signs
  have B_law_signs := F_law_signs.binds (ps := ["_law_pot_here"]) fun _ _ _ _ _ _ us hl => match us, hl with | [_], _ => rfl
  have F_law_go := fun_mk (st := s_law_go) l_law_go e_law_go k_law_go
  have B_law_go := F_law_go.binds (ps := ["_law_bundle_here", "_law_at", "_law_sign"]) fun _ _ _ _ _ _ us hl => match us, hl with | [_, _, _], _ => rfl
  have F_law_next := fun_mk (st := s_law_next) l_law_next e_law_next k_law_next
  have B_law_next := F_law_next.binds (ps := ["_law_some_here", "_law_spots", "_law_sign"]) fun _ _ _ _ _ _ us hl => match us, hl with | [_, _, _], _ => rfl
  have F_law_run := fun_mk (st := s_law_run) l_law_run e_law_run k_law_run
  have B_law_run := F_law_run.binds (ps := ["_law_some_here", "_law_text"]) fun _ _ _ _ _ _ us hl => match us, hl with | [_, _], _ => rfl
  have F_law_has := fun_mk (st := s_law_has) l_law_has e_law_has k_law_has
  have B_law_has := F_law_has.binds (ps := ["_law_some_here", "_law_text"]) fun _ _ _ _ _ _ us hl => match us, hl with | [_, _], _ => rfl
  have F_law_hits := fun_mk (st := s_law_hits) l_law_hits e_law_hits k_law_hits
  have B_law_hits := F_law_hits.binds (ps := ["_law_rule", "_law_flags"]) fun _ _ _ _ _ _ us hl => match us, hl with | [_, _], _ => rfl
  have F_law_apart := fun_mk (st := s_law_apart) l_law_apart e_law_apart k_law_apart
  have B_law_apart := F_law_apart.binds (ps := ["_law_signs_here", "_law_lists", "_law_rule"]) fun _ _ _ _ _ _ us hl => match us, hl with | [_, _, _], _ => rfl
  have F_law_idle := fun_mk (st := s_law_idle) l_law_idle e_law_idle k_law_idle
  have B_law_idle := F_law_idle.binds (ps := ["_law_pieces"]) fun _ _ _ _ _ _ us hl => match us, hl with | [_], _ => rfl
  have F_law_reduced := fun_mk (st := s_law_reduced) l_law_reduced e_law_reduced k_law_reduced
  have B_law_reduced := F_law_reduced.binds (ps := ["_law_bundle_here"]) fun _ _ _ _ _ _ us hl => match us, hl with | [_], _ => rfl
  have F_law_kept := fun_mk (st := s_law_kept) l_law_kept e_law_kept k_law_kept
  have B_law_kept := F_law_kept.binds (ps := ["_law_signs_here", "_law_some_here"]) fun _ _ _ _ _ _ us hl => match us, hl with | [_, _], _ => rfl
  have F_law_texts := fun_mk (st := s_law_texts) l_law_texts e_law_texts k_law_texts
  have B_law_texts := F_law_texts.binds (ps := ["_law_signs_here", "_law_most"]) fun _ _ _ _ _ _ us hl => match us, hl with | [_, _], _ => rfl
  have F_law_some := fun_mk (st := s_law_some) l_law_some e_law_some k_law_some
  have B_law_some := F_law_some.binds (ps := ["_law_pot_here", "_law_signs_here", "_law_many", "_law_most"]) fun _ _ _ _ _ _ us hl => match us, hl with | [_, _, _, _], _ => rfl
  have F_law_padded := fun_mk (st := s_law_padded) l_law_padded e_law_padded k_law_padded
  have B_law_padded := F_law_padded.binds (ps := ["_law_pot_here", "_law_bundle_here"]) fun _ _ _ _ _ _ us hl => match us, hl with | [_, _], _ => rfl
  have F_law_told_right := fun_mk (st := s_law_told_right) l_law_told_right e_law_told_right k_law_told_right
  have B_law_told_right := F_law_told_right.binds (ps := ["_law_signs_here", "_law_made", "_law_some_here"]) fun _ _ _ _ _ _ us hl => match us, hl with | [_, _, _], _ => rfl
  have F_law_in_right := fun_mk (st := s_law_in_right) l_law_in_right e_law_in_right k_law_in_right
  have B_law_in_right := F_law_in_right.binds (ps := ["_law_signs_here", "_law_made", "_law_some_here"]) fun _ _ _ _ _ _ us hl => match us, hl with | [_, _, _], _ => rfl
  have F_law_again_right := fun_mk (st := s_law_again_right) l_law_again_right e_law_again_right k_law_again_right
  have B_law_again_right := F_law_again_right.binds (ps := ["_law_pot_here", "_law_signs_here", "_law_made", "_law_some_here"]) fun _ _ _ _ _ _ us hl => match us, hl with | [_, _, _, _], _ => rfl
  have F_law_two_right := fun_mk (st := s_law_two_right) l_law_two_right e_law_two_right k_law_two_right
  have B_law_two_right := F_law_two_right.binds (ps := ["_law_signs_here", "_law_one", "_law_other"]) fun _ _ _ _ _ _ us hl => match us, hl with | [_, _, _], _ => rfl
  have F_law_right := fun_mk (st := s_law_right) l_law_right e_law_right k_law_right
  have B_law_right := F_law_right.binds (ps := ["_law_pot_here"]) fun _ _ _ _ _ _ us hl => match us, hl with | [_], _ => rfl
  have F_law := fun_mk (st := s_law) l_law e_law k_law
  have B_law := F_law.binds (ps := ["_law_script"]) fun _ _ _ _ _ _ us hl => match us, hl with | [_], _ => rfl
  have F_Sum_init := fun_mk (st := s_Sum_init) l_Sum_init e_Sum_init k_Sum_init
  have B_Sum_init := F_Sum_init.binds (ps := ["self", "letters", "products"]) fun _ _ _ _ _ _ us hl => match us, hl with | [_, _, _], _ => rfl
  have F_Sum_products := fun_mk (st := s_Sum_products) l_Sum_products e_Sum_products k_Sum_products
  have B_Sum_products := F_Sum_products.binds (ps := ["self"]) fun _ _ _ _ _ _ us hl => match us, hl with | [_], _ => rfl
  have F_Sum_contains := fun_mk (st := s_Sum_contains) l_Sum_contains e_Sum_contains k_Sum_contains
  have B_Sum_contains := F_Sum_contains.binds (ps := ["self", "value"]) fun _ _ _ _ _ _ us hl => match us, hl with | [_, _], _ => rfl
  have F_Sum_len := fun_mk (st := s_Sum_len) l_Sum_len e_Sum_len k_Sum_len
  have B_Sum_len := F_Sum_len.binds (ps := ["self"]) fun _ _ _ _ _ _ us hl => match us, hl with | [_], _ => rfl
  have F_Sum_eq := fun_mk (st := s_Sum_eq) l_Sum_eq e_Sum_eq k_Sum_eq
  have B_Sum_eq := F_Sum_eq.binds (ps := ["self", "other"]) fun _ _ _ _ _ _ us hl => match us, hl with | [_, _], _ => rfl
  have F_Sum_repr := fun_mk (st := s_Sum_repr) l_Sum_repr e_Sum_repr k_Sum_repr
  have B_Sum_repr := F_Sum_repr.binds (ps := ["self"]) fun _ _ _ _ _ _ us hl => match us, hl with | [_], _ => rfl
  have F_Sum_letters := fun_mk (st := s_Sum_letters) l_Sum_letters e_Sum_letters k_Sum_letters
  have B_Sum_letters := F_Sum_letters.binds (ps := ["self"]) fun _ _ _ _ _ _ us hl => match us, hl with | [_], _ => rfl
  exact ⟨⟨_, _, ⟨F_is_list, B_is_list, PySem.W.mg_of X G a_is_list⟩,
    _, _, ⟨F_is_text, B_is_text, PySem.W.mg_of X G a_is_text⟩,
    _, _, ⟨F_are_letters, B_are_letters, PySem.W.mg_of X G a_are_letters⟩,
    _, _, ⟨F_is_text_over, B_is_text_over, PySem.W.mg_of X G a_is_text_over⟩,
    _, _, ⟨F_want_few, B_want_few, PySem.W.mg_of X G a_want_few⟩,
    _, _, ⟨F_is_star, B_is_star, PySem.W.mg_of X G a_is_star⟩,
    _, _, ⟨F_letters_in, B_letters_in, PySem.W.mg_of X G a_letters_in⟩,
    _, _, ⟨F_are_rising, B_are_rising, PySem.W.mg_of X G a_are_rising⟩,
    _, _, ⟨F_is_piece, B_is_piece, PySem.W.mg_of X G a_is_piece⟩,
    _, _, ⟨F_is_product, B_is_product, PySem.W.mg_of X G a_is_product⟩,
    _, _, ⟨F_is_product_over, B_is_product_over, PySem.W.mg_of X G a_is_product_over⟩,
    _, _, ⟨F_holds, B_holds, PySem.W.mg_of X G a_holds⟩,
    _, _, ⟨F_place_behind, B_place_behind, PySem.W.mg_of X G a_place_behind⟩,
    _, _, ⟨F_place_by, B_place_by, PySem.W.mg_of X G a_place_by⟩,
    _, _, ⟨F_has_text, B_has_text, PySem.W.mg_of X G a_has_text⟩,
    _, _, ⟨F_lies_within, B_lies_within, PySem.W.mg_of X G a_lies_within⟩,
    _, _, ⟨F_reduced_of, B_reduced_of, PySem.W.mg_of X G a_reduced_of⟩,
    _, _, ⟨F_kept_of, B_kept_of, PySem.W.mg_of X G a_kept_of⟩,
    _, _, ⟨F_want_letters, B_want_letters, PySem.W.mg_of X G a_want_letters⟩,
    _, _, ⟨F_law_pot, B_law_pot, PySem.W.mg_of X G a_law_pot⟩,
    _, _, ⟨F_law_draw, B_law_draw, PySem.W.mg_of X G a_law_draw⟩,
    _, _, ⟨F_law_pick, B_law_pick, PySem.W.mg_of X G a_law_pick⟩,
    _, _, ⟨F_law_mixed, B_law_mixed, PySem.W.mg_of X G a_law_mixed⟩,
    _, _, ⟨F_law_piece, B_law_piece, PySem.W.mg_of X G a_law_piece⟩,
    _, _, ⟨F_law_bundle, B_law_bundle, PySem.W.mg_of X G a_law_bundle⟩,
    _, _, ⟨F_law_signs, B_law_signs, PySem.W.mg_of X G a_law_signs⟩,
    _, _, ⟨F_law_go, B_law_go, PySem.W.mg_of X G a_law_go⟩,
    _, _, ⟨F_law_next, B_law_next, PySem.W.mg_of X G a_law_next⟩,
    _, _, ⟨F_law_run, B_law_run, PySem.W.mg_of X G a_law_run⟩,
    _, _, ⟨F_law_has, B_law_has, PySem.W.mg_of X G a_law_has⟩,
    _, _, ⟨F_law_hits, B_law_hits, PySem.W.mg_of X G a_law_hits⟩,
    _, _, ⟨F_law_apart, B_law_apart, PySem.W.mg_of X G a_law_apart⟩,
    _, _, ⟨F_law_idle, B_law_idle, PySem.W.mg_of X G a_law_idle⟩,
    _, _, ⟨F_law_reduced, B_law_reduced, PySem.W.mg_of X G a_law_reduced⟩,
    _, _, ⟨F_law_kept, B_law_kept, PySem.W.mg_of X G a_law_kept⟩,
    _, _, ⟨F_law_texts, B_law_texts, PySem.W.mg_of X G a_law_texts⟩,
    _, _, ⟨F_law_some, B_law_some, PySem.W.mg_of X G a_law_some⟩,
    _, _, ⟨F_law_padded, B_law_padded, PySem.W.mg_of X G a_law_padded⟩,
    _, _, ⟨F_law_told_right, B_law_told_right, PySem.W.mg_of X G a_law_told_right⟩,
    _, _, ⟨F_law_in_right, B_law_in_right, PySem.W.mg_of X G a_law_in_right⟩,
    _, _, ⟨F_law_again_right, B_law_again_right, PySem.W.mg_of X G a_law_again_right⟩,
    _, _, ⟨F_law_two_right, B_law_two_right, PySem.W.mg_of X G a_law_two_right⟩,
    _, _, ⟨F_law_right, B_law_right, PySem.W.mg_of X G a_law_right⟩,
    _, _, ⟨F_law, B_law, PySem.W.mg_of X G a_law⟩,
    _, ⟨pg_Sum, hd_Sum, po_Sum, sa_Sum⟩, PySem.W.mg_of X G a_Sum, mk_Sum, kc_Sum, ca_Sum, cg_Sum, ct_Sum, ne_Sum, tt_Sum, ns_Sum, ⟨cr_Sum, ck_Sum⟩,
    ⟨_, ⟨cv_Sum_MOST_PRODUCTS, ⟨_, rfl⟩⟩⟩,
    nf_Sum_own_letters,
    nf_Sum_own_products,
    ⟨_, ⟨ka_Sum_MOST_PRODUCTS, ⟨_, rfl⟩, kg_Sum_MOST_PRODUCTS, by decide +kernel⟩⟩,
    _, _, ⟨F_Sum_init, B_Sum_init, ⟨a_Sum_init, i_Sum_init, k_Sum_init⟩⟩,
    _, _, ⟨F_Sum_products, B_Sum_products, ⟨a_Sum_products, i_Sum_products, k_Sum_products⟩⟩,
    _, _, ⟨F_Sum_contains, B_Sum_contains, ⟨a_Sum_contains, i_Sum_contains, k_Sum_contains⟩⟩,
    _, _, ⟨F_Sum_len, B_Sum_len, ⟨a_Sum_len, i_Sum_len, k_Sum_len⟩⟩,
    _, _, ⟨F_Sum_eq, B_Sum_eq, ⟨a_Sum_eq, i_Sum_eq, k_Sum_eq⟩⟩,
    _, _, ⟨F_Sum_repr, B_Sum_repr, ⟨a_Sum_repr, i_Sum_repr, k_Sum_repr⟩⟩,
    _, _, _, ⟨F_Sum_letters, B_Sum_letters, ⟨a_Sum_letters, pg_Sum_letters, pt_Sum_letters, ⟨_, pr_Sum_letters⟩⟩⟩,
    PySem.W.mg_none_of X G z_abs,
    PySem.W.mg_none_of X G z_all,
    PySem.W.mg_none_of X G z_any,
    PySem.W.mg_none_of X G z_dict,
    PySem.W.mg_none_of X G z_divmod,
    PySem.W.mg_none_of X G z_enumerate,
    PySem.W.mg_none_of X G z_int,
    PySem.W.mg_none_of X G z_isinstance,
    PySem.W.mg_none_of X G z_len,
    PySem.W.mg_none_of X G z_list,
    PySem.W.mg_none_of X G z_max,
    PySem.W.mg_none_of X G z_min,
    PySem.W.mg_none_of X G z_property,
    PySem.W.mg_none_of X G z_range,
    PySem.W.mg_none_of X G z_repr,
    PySem.W.mg_none_of X G z_set,
    PySem.W.mg_none_of X G z_sorted,
    PySem.W.mg_none_of X G z_str,
    PySem.W.mg_none_of X G z_tuple,
    PySem.W.mg_none_of X G z_zip,
    ⟨_, PySem.W.mg_of X G y_SMALL_basics⟩,
    ⟨_, PySem.W.mg_of X G y_MOST_LETTERS⟩,
    ⟨_, PySem.W.mg_of X G y_SMALL_products⟩,
    ⟨_, PySem.W.mg_of X G y_STAR⟩,
    ⟨_, PySem.W.mg_of X G y_MOST_IN_STAR⟩,
    ⟨_, PySem.W.mg_of X G y_MOST_PIECES⟩,
    ⟨_, PySem.W.mg_of X G y_LOST⟩,
    ⟨_, PySem.W.mg_of X G y_MOST_PARTS_LETTERS⟩⟩, rfl⟩
end Lw
open PySem PySem.W PyProof.Rows
set_option maxRecDepth 100000 in
set_option maxHeartbeats 0 in
theorem PySem.Challenge.cw_missedparts_k23_whole_sums_kept_holds : PySem.Challenge.rw_missedparts_k23_whole_sums_kept.Holds :=
  Lw.hd (by
  k_fill
  refine Att.attach_callB rfl rfl fun w s₀ s₁ mg mb fa o pm cd doc a vs ns G Y ho hd hcd hmg hobj hints hlen hbits hg => ?_
  have KX := PySem.W.kIn_of Y
  have GG := G.T.g
  refine' Lw.fin KX GG G.T.b G.T.builtins G.T.nolimit hg G.T.bmain hobj hints (Nat.le_trans hlen (by decide)) hmg (Lw.all_mk KX GG ?a_is_list ?l_is_list ?e_is_list ?k_is_list ?a_is_text ?l_is_text ?e_is_text ?k_is_text ?a_are_letters ?l_are_letters ?e_are_letters ?k_are_letters ?a_is_text_over ?l_is_text_over ?e_is_text_over ?k_is_text_over ?a_want_few ?l_want_few ?e_want_few ?k_want_few ?a_is_star ?l_is_star ?e_is_star ?k_is_star ?a_letters_in ?l_letters_in ?e_letters_in ?k_letters_in ?a_are_rising ?l_are_rising ?e_are_rising ?k_are_rising ?a_is_piece ?l_is_piece ?e_is_piece ?k_is_piece ?a_is_product ?l_is_product ?e_is_product ?k_is_product ?a_is_product_over ?l_is_product_over ?e_is_product_over ?k_is_product_over ?a_holds ?l_holds ?e_holds ?k_holds ?a_place_behind ?l_place_behind ?e_place_behind ?k_place_behind ?a_place_by ?l_place_by ?e_place_by ?k_place_by ?a_has_text ?l_has_text ?e_has_text ?k_has_text ?a_lies_within ?l_lies_within ?e_lies_within ?k_lies_within ?a_reduced_of ?l_reduced_of ?e_reduced_of ?k_reduced_of ?a_kept_of ?l_kept_of ?e_kept_of ?k_kept_of ?a_want_letters ?l_want_letters ?e_want_letters ?k_want_letters ?a_law_pot ?l_law_pot ?e_law_pot ?k_law_pot ?a_law_draw ?l_law_draw ?e_law_draw ?k_law_draw ?a_law_pick ?l_law_pick ?e_law_pick ?k_law_pick ?a_law_mixed ?l_law_mixed ?e_law_mixed ?k_law_mixed ?a_law_piece ?l_law_piece ?e_law_piece ?k_law_piece ?a_law_bundle ?l_law_bundle ?e_law_bundle ?k_law_bundle ?a_law_signs ?l_law_signs ?e_law_signs ?k_law_signs ?a_law_go ?l_law_go ?e_law_go ?k_law_go ?a_law_next ?l_law_next ?e_law_next ?k_law_next ?a_law_run ?l_law_run ?e_law_run ?k_law_run ?a_law_has ?l_law_has ?e_law_has ?k_law_has ?a_law_hits ?l_law_hits ?e_law_hits ?k_law_hits ?a_law_apart ?l_law_apart ?e_law_apart ?k_law_apart ?a_law_idle ?l_law_idle ?e_law_idle ?k_law_idle ?a_law_reduced ?l_law_reduced ?e_law_reduced ?k_law_reduced ?a_law_kept ?l_law_kept ?e_law_kept ?k_law_kept ?a_law_texts ?l_law_texts ?e_law_texts ?k_law_texts ?a_law_some ?l_law_some ?e_law_some ?k_law_some ?a_law_padded ?l_law_padded ?e_law_padded ?k_law_padded ?a_law_told_right ?l_law_told_right ?e_law_told_right ?k_law_told_right ?a_law_in_right ?l_law_in_right ?e_law_in_right ?k_law_in_right ?a_law_again_right ?l_law_again_right ?e_law_again_right ?k_law_again_right ?a_law_two_right ?l_law_two_right ?e_law_two_right ?k_law_two_right ?a_law_right ?l_law_right ?e_law_right ?k_law_right ?a_law ?l_law ?e_law ?k_law ?a_Sum ?pg_Sum ?hd_Sum ?po_Sum ?sa_Sum ?mk_Sum ?kc_Sum ?ca_Sum ?cg_Sum ?ct_Sum ?ne_Sum ?tt_Sum ?cr_Sum ?ck_Sum ?ns_Sum ?cv_Sum_MOST_PRODUCTS ?nf_Sum_own_letters ?nf_Sum_own_products ?ka_Sum_MOST_PRODUCTS ?kg_Sum_MOST_PRODUCTS ?a_Sum_init ?i_Sum_init ?l_Sum_init ?e_Sum_init ?k_Sum_init ?a_Sum_products ?i_Sum_products ?l_Sum_products ?e_Sum_products ?k_Sum_products ?a_Sum_contains ?i_Sum_contains ?l_Sum_contains ?e_Sum_contains ?k_Sum_contains ?a_Sum_len ?i_Sum_len ?l_Sum_len ?e_Sum_len ?k_Sum_len ?a_Sum_eq ?i_Sum_eq ?l_Sum_eq ?e_Sum_eq ?k_Sum_eq ?a_Sum_repr ?i_Sum_repr ?l_Sum_repr ?e_Sum_repr ?k_Sum_repr ?a_Sum_letters ?pg_Sum_letters ?pt_Sum_letters ?pr_Sum_letters ?l_Sum_letters ?e_Sum_letters ?k_Sum_letters ?z_abs ?z_all ?z_any ?z_dict ?z_divmod ?z_enumerate ?z_int ?z_isinstance ?z_len ?z_list ?z_max ?z_min ?z_property ?z_range ?z_repr ?z_set ?z_sorted ?z_str ?z_tuple ?z_zip ?y_SMALL_basics ?y_MOST_LETTERS ?y_SMALL_products ?y_STAR ?y_MOST_IN_STAR ?y_MOST_PIECES ?y_LOST ?y_MOST_PARTS_LETTERS)
  (case a_is_list => k_is); (case l_is_list => k_is); (case e_is_list => k_is); (case k_is_list => k_is); (case a_is_text => k_is); (case l_is_text => k_is); (case e_is_text => k_is); (case k_is_text => k_is); (case a_are_letters => k_is); (case l_are_letters => k_is); (case e_are_letters => k_is); (case k_are_letters => k_is); (case a_is_text_over => k_is); (case l_is_text_over => k_is); (case e_is_text_over => k_is); (case k_is_text_over => k_is); (case a_want_few => k_is); (case l_want_few => k_is); (case e_want_few => k_is); (case k_want_few => k_is); (case a_is_star => k_is); (case l_is_star => k_is); (case e_is_star => k_is); (case k_is_star => k_is); (case a_letters_in => k_is); (case l_letters_in => k_is); (case e_letters_in => k_is); (case k_letters_in => k_is); (case a_are_rising => k_is); (case l_are_rising => k_is); (case e_are_rising => k_is); (case k_are_rising => k_is); (case a_is_piece => k_is); (case l_is_piece => k_is); (case e_is_piece => k_is); (case k_is_piece => k_is); (case a_is_product => k_is); (case l_is_product => k_is); (case e_is_product => k_is); (case k_is_product => k_is); (case a_is_product_over => k_is); (case l_is_product_over => k_is); (case e_is_product_over => k_is); (case k_is_product_over => k_is); (case a_holds => k_is); (case l_holds => k_is); (case e_holds => k_is); (case k_holds => k_is); (case a_place_behind => k_is); (case l_place_behind => k_is); (case e_place_behind => k_is); (case k_place_behind => k_is); (case a_place_by => k_is); (case l_place_by => k_is); (case e_place_by => k_is); (case k_place_by => k_is); (case a_has_text => k_is); (case l_has_text => k_is); (case e_has_text => k_is); (case k_has_text => k_is); (case a_lies_within => k_is); (case l_lies_within => k_is); (case e_lies_within => k_is); (case k_lies_within => k_is); (case a_reduced_of => k_is); (case l_reduced_of => k_is); (case e_reduced_of => k_is); (case k_reduced_of => k_is); (case a_kept_of => k_is); (case l_kept_of => k_is); (case e_kept_of => k_is); (case k_kept_of => k_is); (case a_want_letters => k_is); (case l_want_letters => k_is); (case e_want_letters => k_is); (case k_want_letters => k_is); (case a_law_pot => k_is); (case l_law_pot => k_is); (case e_law_pot => k_is); (case k_law_pot => k_is); (case a_law_draw => k_is); (case l_law_draw => k_is); (case e_law_draw => k_is); (case k_law_draw => k_is); (case a_law_pick => k_is); (case l_law_pick => k_is); (case e_law_pick => k_is); (case k_law_pick => k_is); (case a_law_mixed => k_is); (case l_law_mixed => k_is); (case e_law_mixed => k_is); (case k_law_mixed => k_is); (case a_law_piece => k_is); (case l_law_piece => k_is); (case e_law_piece => k_is); (case k_law_piece => k_is); (case a_law_bundle => k_is); (case l_law_bundle => k_is); (case e_law_bundle => k_is); (case k_law_bundle => k_is); (case a_law_signs => k_is); (case l_law_signs => k_is); (case e_law_signs => k_is); (case k_law_signs => k_is); (case a_law_go => k_is); (case l_law_go => k_is); (case e_law_go => k_is); (case k_law_go => k_is); (case a_law_next => k_is); (case l_law_next => k_is); (case e_law_next => k_is); (case k_law_next => k_is); (case a_law_run => k_is); (case l_law_run => k_is); (case e_law_run => k_is); (case k_law_run => k_is); (case a_law_has => k_is); (case l_law_has => k_is); (case e_law_has => k_is); (case k_law_has => k_is); (case a_law_hits => k_is); (case l_law_hits => k_is); (case e_law_hits => k_is); (case k_law_hits => k_is); (case a_law_apart => k_is); (case l_law_apart => k_is); (case e_law_apart => k_is); (case k_law_apart => k_is); (case a_law_idle => k_is); (case l_law_idle => k_is); (case e_law_idle => k_is); (case k_law_idle => k_is); (case a_law_reduced => k_is); (case l_law_reduced => k_is); (case e_law_reduced => k_is); (case k_law_reduced => k_is); (case a_law_kept => k_is); (case l_law_kept => k_is); (case e_law_kept => k_is); (case k_law_kept => k_is); (case a_law_texts => k_is); (case l_law_texts => k_is); (case e_law_texts => k_is); (case k_law_texts => k_is); (case a_law_some => k_is); (case l_law_some => k_is); (case e_law_some => k_is); (case k_law_some => k_is); (case a_law_padded => k_is); (case l_law_padded => k_is); (case e_law_padded => k_is); (case k_law_padded => k_is); (case a_law_told_right => k_is); (case l_law_told_right => k_is); (case e_law_told_right => k_is); (case k_law_told_right => k_is); (case a_law_in_right => k_is); (case l_law_in_right => k_is); (case e_law_in_right => k_is); (case k_law_in_right => k_is); (case a_law_again_right => k_is); (case l_law_again_right => k_is); (case e_law_again_right => k_is); (case k_law_again_right => k_is); (case a_law_two_right => k_is); (case l_law_two_right => k_is); (case e_law_two_right => k_is); (case k_law_two_right => k_is); (case a_law_right => k_is); (case l_law_right => k_is); (case e_law_right => k_is); (case k_law_right => k_is); (case a_law => k_is); (case l_law => k_is); (case e_law => k_is); (case k_law => k_is); (case a_Sum => k_is); (case pg_Sum => k_is); (case hd_Sum => k_is); (case po_Sum => k_is); (case sa_Sum => k_is); (case mk_Sum => k_is); (case kc_Sum => k_is); (case ca_Sum => k_is); (case cg_Sum => k_is); (case ct_Sum => k_is); (case ne_Sum => k_is); (case tt_Sum => k_is); (case cr_Sum => k_is); (case ck_Sum => k_is); (case ns_Sum => k_is); (case cv_Sum_MOST_PRODUCTS => k_is); (case nf_Sum_own_letters => k_is); (case nf_Sum_own_products => k_is); (case ka_Sum_MOST_PRODUCTS => k_is); (case kg_Sum_MOST_PRODUCTS => k_is); (case a_Sum_init => k_is); (case i_Sum_init => k_is); (case l_Sum_init => k_is); (case e_Sum_init => k_is); (case k_Sum_init => k_is); (case a_Sum_products => k_is); (case i_Sum_products => k_is); (case l_Sum_products => k_is); (case e_Sum_products => k_is); (case k_Sum_products => k_is); (case a_Sum_contains => k_is); (case i_Sum_contains => k_is); (case l_Sum_contains => k_is); (case e_Sum_contains => k_is); (case k_Sum_contains => k_is); (case a_Sum_len => k_is); (case i_Sum_len => k_is); (case l_Sum_len => k_is); (case e_Sum_len => k_is); (case k_Sum_len => k_is); (case a_Sum_eq => k_is); (case i_Sum_eq => k_is); (case l_Sum_eq => k_is); (case e_Sum_eq => k_is); (case k_Sum_eq => k_is); (case a_Sum_repr => k_is); (case i_Sum_repr => k_is); (case l_Sum_repr => k_is); (case e_Sum_repr => k_is); (case k_Sum_repr => k_is); (case a_Sum_letters => k_is); (case pg_Sum_letters => k_is); (case pt_Sum_letters => k_is); (case pr_Sum_letters => k_is); (case l_Sum_letters => k_is); (case e_Sum_letters => k_is); (case k_Sum_letters => k_is); (case z_abs => k_is); (case z_all => k_is); (case z_any => k_is); (case z_dict => k_is); (case z_divmod => k_is); (case z_enumerate => k_is); (case z_int => k_is); (case z_isinstance => k_is); (case z_len => k_is); (case z_list => k_is); (case z_max => k_is); (case z_min => k_is); (case z_property => k_is); (case z_range => k_is); (case z_repr => k_is); (case z_set => k_is); (case z_sorted => k_is); (case z_str => k_is); (case z_tuple => k_is); (case z_zip => k_is); (case y_SMALL_basics => k_is); (case y_MOST_LETTERS => k_is); (case y_SMALL_products => k_is); (case y_STAR => k_is); (case y_MOST_IN_STAR => k_is); (case y_MOST_PIECES => k_is); (case y_LOST => k_is); (case y_MOST_PARTS_LETTERS => k_is)
  )
