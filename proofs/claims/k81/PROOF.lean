import PyProof.Rows.All
import KE.OsRunLaw
import KE.KNestM
import PySem.Challenge.RW_missedparts_k81_lines_as_values
import Wide.All
import OpenK.AllK
import Wide.FinOn
import HandS.ForMost
import HandS.SortKw
import HandS.EndTab
import HandS.IsInst
import HandS.StrMore
import HandS.TupLe
import HandS.WideBits
import HandS.Walk
import HandS.Deep
import HandS.ListItems
import HandS.Conv
import HandS.More
import PyProof.ReprRoads
import KE.SortKeyHeap
import KE.KDictCopyH
import PyProof.ReprLen
import KE.DataMinKey
import HandS.Set
import HandS.Strs
import HandS.Property
import HandS.OwnEq
import HandS.FStr
import OpenK.KOps
import OpenK.KMeth
import KE.GoesZip
import KE.GoesMore
import KE.GoesEnum
import KE.KIsAll
import HandS.Replace
import HandS.ClsMeth
import PyProof.StrLawsFirst
import HandS.MakeKwOnly
import KE.KOpsOwn
import HandS.Exc
import HandS.ExcInit
import KE.KExcSuper
import KE.KEqNest
import PyProof.ReprReads
import HandS.SetBool
import HandS.TupSets
import HandS.TryOnly
import HandS.ExcOwn
import HandS.WordsExc
import HandS.ExcField
import HandS.ExcIs
import PyProof.ExcBaseAll.ValueError
import PyProof.ExcBaseAll.RuntimeError
import PyProof.ExcBaseAll.ArithmeticError
import HandS.Lambda
import HandS.Nested
import HandS.TryMany
import PyProof.EqKinds
import HandS.SetFor
import KE.KeyNested
import KE.KDictPairs
import HandS.TupLen
import KE.SortData
import KE.KDictSum
import KE.KDictKeyed
import HandS.DictTup
import KE.KDictItemsList
import HandS.TupAny
import PyProof.TupleOfSeq
import PyProof.Rows.SortShellAny
set_option Elab.async false
set_option linter.all false
set_option maxRecDepth 100000
set_option maxHeartbeats 4000000
namespace L3
open PySem PySem.W PySem.Calls PyProof.Rows HeadRun
/-- a program without some of its top's statements -/
def dropAt (is : List Nat) : Nat → List Stmt → List Stmt
  | _, [] => []
  | n, s :: r => match is.contains n with
    | true => dropAt is (n + 1) r
    | false => s :: dropAt is (n + 1) r
def viewAt (p : Program) (is : List Nat) : Program := { p with main := { p.main with body := dropAt is 0 p.main.body } }
/-- what a hook looks at, off the tree -/
def kOb (as : List Addr) (s : SharedT) : List (Option Obj) := as.map (getT s)
theorem kOb_ok {K : Params → Frag} {as : List Addr} {e : ∀ P, as = (K P).map (·.1)} (s : SharedT) : kOb as s = (kHook K as e).obs s.abs := List.map_congr_left fun a _ => getT_eq s a
theorem map_three {α β γ δ : Type} {o : Option α} {f : α → β} {g : α → γ} {h : α → δ} {b : β} {c : γ} {d : δ}
    (x : o.map f = some b) (y : o.map g = some c) (z : o.map h = some d) : o.map (fun s => (f s, g s, h s)) = some (b, c, d) := by
  cases o with
  | none => cases x
  | some s => cases x; cases y; cases z; rfl
/-- the state behind the top -/
noncomputable abbrev endOf (p : Program) (M : Nat) (w : World) (os : OsState) : Option SharedT := endF (stepQ (denQ tabQ) p w) M p w os
/-- the head by three runs, each checked apart -/
theorem head3 {r : OpenRow} {p q : Program} {H : Hook} {ob : SharedT → H.α} {M : Nat} {loose : List PySem.Str} {d : DefRec} {kwd : List (PySem.Str × PySem.Expr)} (hr : r.prog = p) (hrec : r.toRowW.records = [])
    (ho : ∀ s : SharedT, ob s = H.obs s.abs)
    (e : opening p = plainProg p.main.scope.names) (f : ∀ s, fenceModules? p s = some s)
    (rA : ∀ w os, (endOf p M w os).map (fun s => looksF p (boot_heap w.params) s.abs) = some true)
    (rB : ∀ w os, (endOf p M w os).map (fun s => seenQ q loose (importedModules p.main.body) (fun s => xlAt q [] s && recOk [] s) s.abs) = some (openGood q loose))
    (rC : ∀ w os, (endOf p M w os).map ob = some (H.val w))
    (hdef : defOf q r.name = some (d, kwd)) (hp : r.prog.theDef r.name = some (d.params, d.body, d.scope)) (hk : kwWritten? d.params.kwonlyargs d.params.kw_defaults = some kwd)
    (hwr : (!r.writes || r.records.isEmpty) = true) (k1 : r.wellSaid = true) (ok : (chainsOk q && opensWell r.prog && (frees r.toRowW && r.within.isEmpty)) = true) (hb : r.prog.bare) (hw : r.toRowW.promised)
    (call : WalkO q loose (XL q []) H.says r.toRowW d kwd fun f vs => PySem.call f vs) : r.Holds := by
  subst hr
  refine head_any (M := M) (ob := ob) ho e f (fun w os => ?_) hdef hp hk hwr k1 ok hb hw call
  have z := map_three (rA w os) (rB w os) (rC w os)
  rw [hrec]
  exact z
theorem map_pair {α β γ : Type} {o : Option α} {f : α → β × γ} {b : β} {c : γ} (x : o.map (fun s => (f s).1) = some b) (y : o.map (fun s => (f s).2) = some c) : o.map f = some (b, c) := by
  cases o with
  | none => cases x
  | some s =>
    have x' : (f s).1 = b := Option.some.inj x
    have y' : (f s).2 = c := Option.some.inj y
    exact congrArg some (Prod.ext x' y')
theorem map_l {α β γ : Type} {o : Option α} {f : α → β} {g : α → γ} {b : β} {c : γ} (x : o.map (fun s => (f s, g s)) = some (b, c)) : o.map f = some b := by
  cases o with
  | none => cases x
  | some s => exact congrArg some (Prod.mk.inj (Option.some.inj x)).1
theorem map_r {α β γ : Type} {o : Option α} {f : α → β} {g : α → γ} {b : β} {c : γ} (x : o.map (fun s => (f s, g s)) = some (b, c)) : o.map g = some c := by
  cases o with
  | none => cases x
  | some s => exact congrArg some (Prod.mk.inj (Option.some.inj x)).2
/-- the looks at the view, one of them -/
noncomputable abbrev seenAt (p q : Program) (l : List PySem.Str) (s : SharedT) := seenQ q l (importedModules p.main.body) (fun s => xlAt q [] s && recOk [] s) s.abs
end L3
namespace Lw
open PySem PySem.W PyProof.Rows HeadRun L3
noncomputable abbrev pz : Program := PySem.Challenge.pw_missedparts_k81_lines_as_values
noncomputable def qz : Program := viewAt pz [0, 3, 10, 14]
def lz : List PySem.Str := []
theorem hdA : ∀ w os, (endOf pz 2172 w os).map (fun s => (looksF pz (boot_heap w.params) s.abs, (seenAt pz qz lz s).2.2.2.2.2.2.2.1)) = some (true, (wideGood qz)) := by
  intro w os; kernel_rfl
theorem hdB1 : ∀ w os, (endOf pz 2172 w os).map (fun s => (seenAt pz qz lz s).1) = some (expectedOf qz) := by
  intro w os; kernel_rfl
theorem hdB3 : ∀ w os, (endOf pz 2172 w os).map (fun s => (seenAt pz qz lz s).2.2.1) = some true := by
  intro w os; kernel_rfl
theorem hdB4 : ∀ w os, (endOf pz 2172 w os).map (fun s => (seenAt pz qz lz s).2.2.2.1) = some true := by
  intro w os; kernel_rfl
theorem hdB6 : ∀ w os, (endOf pz 2172 w os).map (fun s => (seenAt pz qz lz s).2.2.2.2.2.1) = some (plainGoodE qz (looseW qz lz)) := by
  intro w os; kernel_rfl
theorem hdB : ∀ w os, (endOf pz 2172 w os).map (fun s => ((seenAt pz qz lz s).2.1, ((seenAt pz qz lz s).2.2.2.2.1, ((seenAt pz qz lz s).2.2.2.2.2.2.1, (seenAt pz qz lz s).2.2.2.2.2.2.2.2)))) = some (bltViewBooted, ((pinGoodD (drecsOf qz)), ((plainGoodD qz lz), (clsGoodW qz lz)))) := by
  intro w os; kernel_rfl
theorem hdS : ∀ w os, (endOf pz 2172 w os).map (fun s => seenAt pz qz lz s) = some (openGood qz lz) := fun w os =>
  (map_pair (hdB1 w os) (map_pair (map_l (hdB w os)) (map_pair (hdB3 w os) (map_pair (hdB4 w os) (map_pair (map_l (map_r (hdB w os))) (map_pair (hdB6 w os) (map_pair (map_l (map_r (map_r (hdB w os)))) (map_pair (map_r (hdA w os)) (map_r (map_r (map_r (hdB w os))))))))))))
local macro_rules | `(tactic| o_head ($f $k $a $e)) => `(tactic| (
  refine' head3 (p := pz) (q := qz) (loose := lz) (M := 2172) (H := $f $k $a $e) (ob := kOb $a) rfl rfl (fun s => kOb_ok s) ?e ?f (fun w os => map_l (hdA w os)) hdS ?rC (by rfl) (by rfl) (by rfl) (by rfl) (by first | assumption | decide +kernel) (by decide +kernel) ⟨rfl, rfl, rfl, rfl, rfl, by decide +kernel⟩ ?hw ?hc
  (case e => kernel_rfl)
  (case f => intro s; kernel_rfl)
  (case rC => intro w os; kernel_rfl)))
open_top hd for PySem.Challenge.rw_missedparts_k81_lines_as_values
end Lw
namespace L3
open PySem PySem.Spec PyProof.Rows L2
/-- as FnOk, where no guard stands around -/
structure FnOkG (P : Program) (w : World) (K : PySem.W.Frag) (mg : Str → Option Value) (base : Heap) (CX : CXT) (k : Nat) (f : Addr) (fd : FuncData) (ps : List Str) (sp : Sp) : Prop where
  len : ∀ vs H Q E, sp vs H Q E → vs.length = ps.length
  run : ∀ (A : Around) (outer : List Env) (s : Shared) (H : Hp) (args : Args) (us : List Value) (vs : List V) (Q : VK) (E : XK), Room k A → A.guards = some [] → Env0 P w K mg base A outer s H → BindsTo s fd args (ps.zip us) → Vals vs us → sp vs H Q E →
    codeAny (model P w) A (.call (.ref f) args) (CR CX outer P w H s Q E) s
theorem FnOkG.of {P : Program} {w : World} {K : PySem.W.Frag} {mg : Str → Option Value} {base : Heap} {CX : CXT} {k : Nat} {f : Addr} {fd : FuncData} {ps : List Str} {sp : Sp} (F : FnOk P w K mg base CX k f fd ps sp) : FnOkG P w K mg base CX k f fd ps sp :=
  ⟨F.len, fun A outer s H args us vs Q E hr _ => F.run A outer s H args us vs Q E hr⟩
theorem FnOkG.mono {P : Program} {w : World} {K : PySem.W.Frag} {mg : Str → Option Value} {base : Heap} {CX : CXT} {j k : Nat} {f : Addr} {fd : FuncData} {ps : List Str} {sp : Sp} (F : FnOkG P w K mg base CX j f fd ps sp) (h : j ≤ k) : FnOkG P w K mg base CX k f fd ps sp :=
  ⟨F.len, fun A outer s H args us vs Q E hr => F.run A outer s H args us vs Q E (hr.mono h)⟩
section
variable {P : Program} {w : World} {K : PySem.W.Frag} {mg : Str → Option Value} {base : Heap}
theorem fn_ofG {CX : CXT} {k : Nat} {f : Addr} {name qual : Str} {params : Arguments} {body : List Stmt} {scope : Scope} {dV kV doc pm cdv ct oc : Value} {an od : Option Addr}
    {osl : Array (Option Value)} {N ps : List Str} {sp : Sp} (lk : K.lookup f = some ⟨oc, od, .func (PySem.W.fnOf name qual params body scope dV kV doc pm an cdv ct), osl⟩) (hcd : PySem.W.codeIn K cdv qual = true) (S : FnScope N ps scope)
    (len : ∀ vs H Q E, sp vs H Q E → vs.length = ps.length)
    (hbody : ∀ (A : Around) (outer : List Env) (s : Shared) (H : Hp) (vs : List V) (Q : VK) (E : XK), Room k (A.deeper (envOfC qual scope s.heap.objs.size f cdv)) → A.guards = some [] → sp vs H Q E →
      ∃ t, PSs (cxOf CX P w K mg base N qual scope f cdv A outer s H E) body t ∧ t { nx := fun _ H' => Q .non H', rt := Q } (L2.start N vs) H) :
    FnOkG P w K mg base CX (k + 1) f (PySem.W.fnOf name qual params body scope dV kV doc pm an cdv ct) ps sp := by
  refine ⟨len, fun A outer s H args us vs Q E hr hg e0 hb r hsp => ?_⟩
  exact LamX.run_ofS lk hcd S hr e0 hb r (len _ _ _ _ hsp) fun hr' => hbody A outer s H vs Q E hr' hg hsp
theorem okG {x qual : Str} {st : Stmt} {f : Addr} {fd : FuncData} {N ps : List Str} {k : Nat} {sp : Sp} (F : Fun K x qual st f fd) (S : FnScope N ps (defScope st)) (len : ∀ vs H Q E, sp vs H Q E → vs.length = ps.length)
    (hbody : ∀ (cdv : Value) (A : Around) (outer : List Env) (s : Shared) (H : Hp) (vs : List V) (Q : VK) (E : XK), Room k (A.deeper (envOfC qual (defScope st) s.heap.objs.size f cdv)) → A.guards = some [] → sp vs H Q E →
      ∃ t, PSs (cxOf CX0 P w K mg base N qual (defScope st) f cdv A outer s H E).nox (defBody st) t ∧ t { nx := fun _ H' => Q .non H', rt := Q } (L2.start N vs) H) : FnOkG P w K mg base CX0 (k + 1) f fd ps sp := by
  obtain ⟨oc, od, kV, doc, pm, an, cdv, ct, osl, rfl, lk, hcd⟩ := F.ex
  refine fn_ofG lk hcd S len fun A outer s H vs Q E hr hg hsp => ?_
  obtain ⟨t, h, q⟩ := hbody cdv A outer s H vs Q E hr hg hsp
  exact ⟨t, h.nox, q⟩
end
section
variable {X : Cx} {CX : CXT} {k : Nat} {f : Addr} {fd : FuncData} {ps ks : List Str} {sp : Sp} {E : XK} {x : Str} {p pos : Pos} {e : Expr} {es : List Expr} {kws : List Keyword} {t tk : TA} {g : List Value → List Value → List Value} {gV : List V → List V → List V}
theorem run_fnG {pins : List (Addr × Obj)} {σ : L2.St} {H : Hp} {s : Shared} {Q : VK} {us ws : List Value} {vs : List V} {kw : List (Str × Value)} (F : FnOkG X.prog X.w X.K X.mg X.base CX k f fd ps sp) (hr : Room k X.A) (hG : X.A.guards = some []) (hx : Passes CX X E)
    (I : Inv X pins σ H s) (hb : BindsTo s fd ⟨us, kw⟩ (ps.zip ws)) (r : Vals vs ws) (h : sp vs H Q E) : wpAny (model X.prog X.w) X.A (call (.ref f) us kw) (EP X pins σ Q) X.xe s := by
  refine wpAny_call (codeAny_mono (F.run X.A X.stack s H ⟨us, kw⟩ ws vs Q E hr hG I.env0 hb r h) fun r s' hq => ?_)
  cases r with
  | error e => exact hx pins σ H s e s' I hq
  | ok fl =>
    cases fl with
    | ret u => exact I.after hq
    | next => exact False.elim hq
    | brk => exact False.elim hq
    | cont => exact False.elim hq
/-- f(e, ..) -/
theorem pe_callG (F : FnOkG X.prog X.w X.K X.mg X.base CX k f fd ps sp) (hr : Room k X.A) (hG : X.A.guards = some []) (hg : Gl X x) (hm : X.mg x = some (.ref f)) (hk : PySem.W.keepIn X.K (.ref f) = true) (hb : L2.Binds X.K fd ps []) (hx : Passes CX X E)
    (ha : PA X (e :: es) t) (hdb : (x == ("__debug__" : Str)) = false := by decide) (he : starEach (e :: es) X.env = (false, eval e X.env) :: starEach es X.env := by rfl) (hpl : (backTo pos (starEach es X.env)).any (·.1) = false := by rfl) :
    PE X (.Call (.Name x p) (e :: es) [] pos) (tCall sp [] E t) := by
  refine ⟨fun pins s σ H Q I h => ?_⟩
  refine wpAny_Call_Name_kw (ld_glob I hg hm ?_ hdb)
  refine PySem.W.callWith_K (h₀ := X.base) I.ok.mod.kin hk (thn (ha.run pos pins s σ H _ I h) fun us s1 ⟨vs, H1, I1, r, q⟩ => ⟨I1.kIn, ?_⟩) he hpl
  have q : sp (vs ++ []) H1 Q E := q
  rw [List.append_nil] at q
  have hl : (us ++ []).length = ps.length := by rw [List.append_nil, ← r.length]; exact F.len _ _ _ _ q
  exact run_fnG F hr hG hx I1 (hb s1 us I1.kIn hl) (by rw [List.append_nil]; exact r) q
/-- f(k = v, ..), keywords alone -/
theorem pe_callK0 (F : FnOkG X.prog X.w X.K X.mg X.base CX k f fd ps sp) (hr : Room k X.A) (hG : X.A.guards = some []) (hg : Gl X x) (hm : X.mg x = some (.ref f)) (hk : PySem.W.keepIn X.K (.ref f) = true) (hb : KBinds X.K fd ps ks g gV) (hx : Passes CX X E)
    (hkw : PK X kws tk) (hall : (backToKw pos (keywordEach kws X.env)).all (·.1.isSome) = true := by rfl) (hks : (backToKw pos (keywordEach kws X.env)).filterMap (·.1) = ks := by rfl)
    (hdb : (x == ("__debug__" : Str)) = false := by decide)
    (hpl : ((backTo pos (starEach [] X.env)).any (·.1) || (backToKw pos (keywordEach kws X.env)).any (·.1.isNone)) = false := by rfl) :
    PE X (.Call (.Name x p) [] kws pos) (tCallK sp gV E tNil tk) := by
  refine ⟨fun pins s σ H Q I h => ?_⟩
  refine wpAny_Call_Name_kw (ld_glob I hg hm ?_ hdb)
  refine PySem.W.callWith_KW0 (h₀ := X.base) I.ok.mod.kin hk hall (thn (hkw.run pos pins s σ H _ I h) fun ws s2 ⟨zs, H2, I2, rz, q2⟩ => ⟨I2.kIn, ?_⟩) hpl
  rw [hks]
  have r2 := hb.rel (vs := []) (us := []) .nil rz
  have hl : (g [] ws).length = ps.length := by rw [← r2.length]; exact F.len _ _ _ _ q2
  exact run_fnG F hr hG hx I2 (hb.to s2 [] ws I2.kIn hl) r2 q2
end
end L3
namespace L3
open PySem PySem.Spec PyProof.Rows L2
/-- a text by its codes -/
abbrev tS (l : List Nat) : Str := ⟨l.toArray⟩
abbrev tx (l : List Nat) : V := .str (tS l)
theorem tS_len (l : List Nat) : (tS l).length = l.length := by show l.toArray.size = _; simp
theorem tS_inj {a b : List Nat} (h : tS a = tS b) : a = b := by
  have h2 : a.toArray = b.toArray := congrArg Str.cps h
  simpa using congrArg Array.toList h2
theorem tS_app (a b : List Nat) : tS a ++ tS b = tS (a ++ b) := by
  show (⟨a.toArray ++ b.toArray⟩ : Str) = _
  simp
section
variable {X : Cx}
theorem op_addT : OpR X (binaryOp .Add) (fun x y H Q => ∃ a b, x = tx a ∧ y = tx b ∧ a.length + b.length ≤ sizeLine ∧ Q (tx (a ++ b)) H) := by
  intro pins s σ H x y v u Q I rx ry h
  obtain ⟨a, b, rfl, rfl, hz, q⟩ := h
  exact op_add_str pins s σ H _ _ v u Q I rx ry ⟨_, _, rfl, rfl, by rw [tS_len, tS_len]; exact hz, by rw [tS_app]; exact q⟩
end
end L3
namespace L3
open PySem PySem.Spec PyProof.Rows L2
mutual
theorem dp_noDict {K : PySem.W.Frag} {H : Hp} : ∀ {v : V} {d : PyData}, Dp K H v d → d.hasDict = false
  | _, .none, _ => by simp only [PyData.hasDict]
  | _, .bool _, _ => by simp only [PyData.hasDict]
  | _, .int _, _ => by simp only [PyData.hasDict]
  | _, .str _, _ => by simp only [PyData.hasDict]
  | _, .list ds, h => by
    cases h with
    | lst hs ha => simp only [PyData.hasDict]; exact dpAll_noDict ha
  | _, .tuple ds, h => by
    cases h with
    | tup hs ha => simp only [PyData.hasDict]; exact dpAll_noDict ha
  | _, .dict _, h => by cases h
theorem dpAll_noDict {K : PySem.W.Frag} {H : Hp} : ∀ {vs : List V} {ds : List PyData}, DpAll K H vs ds → PyData.hasDictAll ds = false
  | _, [], _ => by simp only [PyData.hasDictAll]
  | _, d :: ds, h => by
    cases h with
    | cons h1 h2 => simp only [PyData.hasDictAll, dp_noDict h1, dpAll_noDict h2, Bool.or_self]
end
theorem len_toL (acc : Array Value) : acc.toList.length = acc.size := by simp
section
variable {X : Cx}
/-- list(text) -/
theorem call_listT (hc : X.calm = true) : CallR X (.type "list") (fun xs H Q => ∃ l, xs = [tx l] ∧ l.length ≤ sizeLine ∧ ∀ p, H p = none → Q (.ref p) (upd H p (.lst (l.map fun c => tx [c])))) := by
  intro pins s σ H xs us Q I r h
  obtain ⟨l, rfl, hz, q⟩ := h
  obtain ⟨u, rfl, rx⟩ := vals1 r
  obtain ⟨t, rfl⟩ := rx
  refine call_list_str (I.ok.hd hc) (tS l) t (fun h' tk acc c hk hS hacc => ?_) (by show l.toArray.size ≤ _; simpa using hz)
  have hl : acc.size = l.length := by rw [hacc.1]; simp [tS]
  have hv : Vals (l.map fun c => tx [c]) acc.toList := vals_of_at (by rw [List.length_map, len_toL, hl]) fun j x w h1 h2 => by
    obtain ⟨c, t, e1, e2⟩ := hacc.2 j w (by rw [← Array.getElem?_toList]; exact h2)
    have e3 : l[j]? = some c := by simpa [tS] using e1
    rw [List.getElem?_map, e3] at h1
    cases h1
    subst e2
    exact ⟨t, rfl⟩
  exact ⟨.ref s.heap.objs.size, upd H s.heap.objs.size (.lst (l.map fun c => tx [c])), I.laid (t' := tk) hk (Nat.le_refl _)
    (show ObjOk X.prog X.w _ _ _ (.lst (l.map fun c => tx [c])) from ⟨by rw [List.length_map]; exact hz, acc.toList, c, hv, by rw [Array.toArray_toList]; exact hS⟩), rfl, q _ (I.hok.fresh (Nat.le_refl _))⟩
end
end L3
namespace L3
open PySem PySem.Spec PyProof.Rows L2
end L3
namespace L3
open PySem PySem.Spec PyProof.Rows L2
end L3
namespace L3
open PySem PySem.Spec PyProof.Rows L2
end L3
namespace L3
open PySem PySem.Spec PyProof.Rows L2
end L3
namespace L3
open PySem PySem.Spec PyProof.Rows L2
/-- the tracked heap at the law's call: the script (locked), where it is not written, and the tables -/
def H0 (K : PySem.W.Frag) (a : Addr) (vs : List Value) (ns : List Int) (cs : List (Addr × Addr)) : Hp := fun b =>
  if b = a then (if (K.lookup a).isSome then none else some (.frz { cls := .type "list", data := .seq vs.toArray } (.lst (ns.map V.int)))) else if b ∈ cs.map (·.2) then some (.tbl #[]) else none
theorem law_callG {P : Program} {w : World} {K : PySem.W.Frag} {mg mb : Str → Option Value} {k : Nat} {fa a : Addr} {cs : List (Addr × Addr)} {fd : FuncData} {x : Str} {sp : Sp} {s₁ : Shared} {vs : List Value} {ns : List Int}
    (KX : K.In s₁.heap) (hns : s₁.heap.Ns mainGlobals mg) (hb : s₁.heap.Ns builtinsNs mb) (hbb : ∀ x : Str, x ≠ "__name__" → mb x = bootBuiltins x) (hlim : s₁.heap.NoLimit) (hg : s₁.gens = #[])
    (hT : ∀ p ∈ cs, s₁.heap.get? p.2 = some { cls := .none, data := .fields #[] }) (nT : ∀ p ∈ cs, K.lookup p.2 = none) (C : ∀ p ∈ cs, PySem.W.CodeHd s₁.heap p.1 p.2)
    (hbm : ∃ (bm : Addr) (ob : Obj), mg "__builtins__" = some (.ref bm) ∧ bm ≠ builtinsNs ∧ s₁.heap.get? bm = some ob ∧ ob.cls = .type "module" ∧ ob.dict = some builtinsNs ∧ ob.data = .plain)
    (ha : s₁.heap.get? a = some { cls := .type "list", data := .seq vs.toArray }) (hi : IntsAre vs ns) (hl : ns.length ≤ sizeLine) (hr : Room k callerA)
    (F : ∀ base : Heap, K.In base → base.Ns mainGlobals mg → (∀ p ∈ cs, LamX.TabB base mg p.1 p.2) → FnOkG P w K mg base CX0 k fa fd [x] sp) (hbind : L2.Binds K fd [x] [])
    (hsp : ∀ H : Hp, (∀ p ∈ cs, H p.2 = some (.tbl #[])) → SqL K H a (ns.map V.int) → sp [.ref a] H (fun v _ => v = .bl true) fun _ _ _ => False) :
    codeAny (model P w) callerA (.call (.ref fa) ⟨[.ref a], []⟩) (fun r s' => r = .ok (.ret (.bool true)) ∧ OldK s₁.heap s'.heap ∧ s'.os = s₁.os ∧ AllBare s'.gens) s₁ := by
  have rv := vals_ints hi
  have lenV := hi.length
  have isT : ∀ b : Addr, b ∈ cs.map (·.2) → s₁.heap.get? b = some { cls := .none, data := .fields #[] } := fun b hb => by
    obtain ⟨p, hp, e⟩ := List.mem_map.mp hb
    rw [← e]; exact hT p hp
  have aT : a ∉ cs.map (·.2) := fun z => by
    have q := isT a z
    rw [ha] at q
    cases congrArg Obj.data (Option.some.inj q)
  have memT : ∀ p ∈ cs, p.2 ∈ cs.map (·.2) := fun p hp => List.mem_map.mpr ⟨p, hp, rfl⟩
  -- the three cases of H0
  have hcase : ∀ b, (b = a ∧ H0 K a vs ns cs b = none ∧ (K.lookup a).isSome = true) ∨ (b = a ∧ K.lookup a = none ∧ H0 K a vs ns cs b = some (.frz { cls := .type "list", data := .seq vs.toArray } (.lst (ns.map V.int)))) ∨
      (b ≠ a ∧ b ∈ cs.map (·.2) ∧ H0 K a vs ns cs b = some (.tbl #[])) ∨ (b ≠ a ∧ b ∉ cs.map (·.2) ∧ H0 K a vs ns cs b = none) := fun b => by
    unfold H0
    by_cases e : b = a
    · rw [if_pos e]
      cases hk : K.lookup a with
      | some o => exact .inl ⟨e, rfl, rfl⟩
      | none => exact .inr (.inl ⟨e, rfl, rfl⟩)
    · rw [if_neg e]
      by_cases e2 : b ∈ cs.map (·.2)
      · rw [if_pos e2]; exact .inr (.inr (.inl ⟨e, e2, rfl⟩))
      · rw [if_neg e2]; exact .inr (.inr (.inr ⟨e, e2, rfl⟩))
  have tabAt : ∀ p ∈ cs, H0 K a vs ns cs p.2 = some (.tbl #[]) := fun p hp => by
    rcases hcase p.2 with ⟨e, _⟩ | ⟨e, _⟩ | ⟨_, _, z⟩ | ⟨_, n, _⟩
    · exact absurd (e ▸ memT p hp) aT
    · exact absurd (e ▸ memT p hp) aT
    · exact z
    · exact absurd (memT p hp) n
  have free : ∀ {b : Addr} {o : Obj}, s₁.heap.get? b = some o → (∀ vs n, o.data ≠ .seq vs n) → o.data ≠ .fields #[] → H0 K a vs ns cs b = none := fun {b o} e h1 h2 => by
    rcases hcase b with ⟨_, z, _⟩ | ⟨e', _⟩ | ⟨_, e', _⟩ | ⟨_, _, z⟩
    · exact z
    · rw [e', ha] at e
      cases e
      exact absurd rfl (h1 _ _)
    · rw [isT b e'] at e
      cases e
      exact absurd rfl h2
    · exact z
  have nsK : ∀ {b : Addr} {m : Str → Option Value}, s₁.heap.Ns b m → (hidT s₁.heap (H0 K a vs ns cs)).Ns b m := fun {b m} ⟨o, es, ep, e, d, r⟩ =>
    ⟨o, es, ep, hidT_get e (free e (fun vs n z => by rw [d] at z; cases z) fun z => by rw [d] at z; cases z), d, r⟩
  have hKb : K.In (hidT s₁.heap (H0 K a vs ns cs)) := fun b o e => hidT_get (KX b o e) (by
    rcases hcase b with ⟨_, z, _⟩ | ⟨e', n, _⟩ | ⟨_, e', _⟩ | ⟨_, _, z⟩
    · exact z
    · rw [e', n] at e; cases e
    · obtain ⟨p, hp, ep⟩ := List.mem_map.mp e'
      rw [← ep, nT p hp] at e
      cases e
    · exact z)
  have hM : L2.Mod K mg (hidT s₁.heap (H0 K a vs ns cs)) := ⟨hKb, nsK hns, ⟨mb, nsK hb, hbb⟩, let ⟨mc, h1, h2⟩ := hlim; ⟨mc, nsK h1, h2⟩⟩
  have TB : ∀ p ∈ cs, LamX.TabB (hidT s₁.heap (H0 K a vs ns cs)) mg p.1 p.2 := fun p hp => by
    have hTp := hT p hp
    refine ⟨?_, ?_, fun z => ?_⟩
    · obtain ⟨o, us, file, tf, flags, tg, inF, text, tt, e1, r1, r2, r3, r⟩ := C p hp
      refine ⟨o, us, file, tf, flags, tg, inF, text, tt, hidT_get e1 (free e1 (fun vs n z => by rw [r2] at z; cases z) fun z => ?_), r1, r2, r3, r⟩
      rw [r2] at z
      cases z
      simp at r3
    · obtain ⟨bm, ob, b1, b2, b3, b4, b5, b6⟩ := hbm
      refine ⟨bm, ob, b1, b2, fun q => ?_, fun q => ?_, hidT_get b3 (free b3 (fun vs n z => by rw [b6] at z; cases z) fun z => by rw [b6] at z; cases z), b4, b5, b6⟩
      · obtain ⟨o, es, ep, e, hd, _⟩ := hns
        rw [q, e] at b3
        cases b3
        rw [hd] at b6
        cases b6
      · rw [q, hTp] at b3
        cases b3
        cases b6
    · obtain ⟨o, es, ep, e, hd, _⟩ := hns
      rw [z, hTp] at e
      cases e
      cases hd
  have hok : HOk P w (H0 K a vs ns cs) s₁.heap := fun b u z => by
    rcases hcase b with ⟨_, n, _⟩ | ⟨e', _, q⟩ | ⟨_, e', q⟩ | ⟨_, _, n⟩
    · rw [n] at z; cases z
    · rw [q] at z
      cases z
      rw [e']
      exact ⟨ha, by rw [List.length_map]; exact hl, vs, _, rv, ha⟩
    · rw [q] at z
      cases z
      exact isT b e'
    · rw [n] at z; cases z
  have hS : SqL K (H0 K a vs ns cs) a (ns.map V.int) := by
    rcases hcase a with ⟨_, _, hk⟩ | ⟨_, _, q⟩ | ⟨n, _⟩ | ⟨n, _⟩
    · obtain ⟨o, hk⟩ := Option.isSome_iff_exists.mp hk
      have e := KX a o hk
      rw [ha] at e
      cases e
      exact .inr ⟨_, vs.toArray, _, hk, rfl, rfl, rfl, by rw [List.size_toArray, lenV]; exact hl, by simpa using rv⟩
    · exact .inl (.inr ⟨_, q⟩)
    · exact absurd rfl n
    · exact absurd rfl n
  have e0 : Env0 P w K mg (hidT s₁.heap (H0 K a vs ns cs)) callerA [] s₁ (H0 K a vs ns cs) := ⟨rfl, hM, fun b o e => of_hidT e, Nat.le_of_eq (hidT_size _ _), trivial, fun b hb => absurd (show b ∈ ([] : List Addr) from hb) (by simp), hok, .of_eq hg⟩
  refine codeAny_mono ((F _ hKb (nsK hns) TB).run callerA [] s₁ (H0 K a vs ns cs) ⟨[.ref a], []⟩ [.ref a] [.ref a] _ _ hr rfl e0 (hbind s₁ [.ref a] KX rfl) (.cons rfl .nil) (hsp _ tabAt hS)) fun r s' h => ?_
  cases r with
  | error e => exact (show False from h).elim
  | ok fl =>
    cases fl with
    | next => exact False.elim h
    | brk => exact False.elim h
    | cont => exact False.elim h
    | ret u =>
      obtain ⟨v, H', os, bare, un, hok', r', q⟩ := h
      have q' : v = .bl true := q
      subst q'
      obtain rfl : u = Value.bool true := r'
      have key : ∀ b o, b ∉ cs.map (·.2) → s₁.heap.get? b = some o → s'.heap.get? b = some o := fun b o nb e => by
        rcases hcase b with ⟨_, n, _⟩ | ⟨_, _, z⟩ | ⟨_, e', _⟩ | ⟨_, _, n⟩
        · exact un.keep b o e n (fun z => absurd (show b ∈ ([] : List Addr) from z) (by simp)) (by simp)
        · have z2 := un.frzs b _ _ z
          obtain ⟨e1, _⟩ := hok b _ z
          obtain ⟨e2, _⟩ := hok' b _ z2
          rw [e] at e1
          cases e1
          exact e2
        · exact absurd e' nb
        · exact un.keep b o e n (fun z => absurd (show b ∈ ([] : List Addr) from z) (by simp)) (by simp)
      have grown : ∀ p ∈ cs, ∃ more : Array Value, s'.heap.get? p.2 = some { cls := .none, data := .fields more } := fun p hp => by
        obtain ⟨more, z⟩ := un.tbls p.2 #[] (tabAt p hp)
        exact ⟨_, hok' p.2 _ z⟩
      refine ⟨rfl, ⟨fun b o e => ?_, fun b o e => ?_⟩, os, bare⟩
      · by_cases hb : b ∈ cs.map (·.2)
        · obtain ⟨p, hp, ep⟩ := List.mem_map.mp hb
          obtain ⟨more, hm⟩ := grown p hp
          rw [← ep] at e ⊢
          rw [hT p hp] at e
          cases e
          exact .inr (.inl ⟨((C p hp).tab (hT p hp)).isCodeTable, rfl, #[], more, rfl, by rw [Array.empty_append]; exact hm⟩)
        · exact .inl (key b o hb e)
      · by_cases hb : b ∈ cs.map (·.2)
        · obtain ⟨p, hp, ep⟩ := List.mem_map.mp hb
          obtain ⟨more, hm⟩ := grown p hp
          rw [← ep]
          exact ⟨_, hm⟩
        · exact ⟨o, key b o hb e⟩
end L3
namespace L3
open PySem PySem.Spec PyProof.Rows L2
theorem same_upd {H : Hp} {p : Addr} {o : HO} (h : H p = none) : Same H (upd H p o) := fun b x e => by
  rw [upd_ne (ne_of_none e h)]
  exact e
theorem same_up {H H' : Hp} {p : Addr} {o : HO} (s : Same H H') (h : H p = none) : Same H (upd H' p o) := fun b x e => by
  rw [upd_ne (ne_of_none e h)]
  exact s b x e
/-- a comprehension: R of the heap, A of the list so far -/
theorem lc_gen {J : It} {n : Nat} {G : Hp → Prop} {Y : Nat → Hp → V → Hp → Prop} (w : Walk J n G Y) {g : TG} {tt : TT} {te : TE} {vs : List Nat} {σ : L2.St} {H1 : Hp} {D : Addr} {Qd : Hp → Prop} (R : Hp → Prop) (A : Nat → List V → Prop) (hz : n ≤ sizeLine) (hA : ∀ i acc, A i acc → acc.length ≤ i)
    (h0 : A 0 []) (r0 : R (upd H1 D (.lst []))) (r1 : ∀ H x, R H → R (upd H D x)) (hG : ∀ H, R H → G H)
    (hs : ∀ i x H H' acc (C : VK) (N : Hp → Prop), i < n → R H → H D = some (.lst acc) → A i acc → Y i H x H' → (∀ v H4, R H4 → H4 D = some (.lst acc) → A (i + 1) (acc ++ [v]) → C v H4) → (∀ H3, R H3 → H3 D = some (.lst acc) → A (i + 1) acc → N H3) →
      g x (wipe σ vs) H' fun σ2 H2 => wipe σ2 vs = wipe σ vs ∧ tt σ2 H2 fun b H3 => if b = true then te σ2 H3 C else N H3)
    (hd : ∀ H xs, R H → H D = some (.lst xs) → A n xs → Qd H) :
    ∃ W : Nat → Nat → Hp → Prop, (∃ m, W 0 m (upd H1 D (.lst []))) ∧ ∀ i m H, W i m H →
      (J.stop i H ∧ Qd H) ∨ (J.go i H ∧ ∃ Nx : Hp → Prop, (∀ H', Nx H' → ∃ m', m' < m ∧ W (i + 1) m' H') ∧ ∀ x H', J.yld i H x H' → g x (wipe σ vs) H' fun σ2 H2 => wipe σ2 vs = wipe σ vs ∧ tt σ2 H2 fun b H3 =>
        if b = true then te σ2 H3 fun y H4 => ∃ acc, H4 D = some (.lst acc) ∧ acc.length < sizeLine ∧ Nx (upd H4 D (.lst (acc ++ [y]))) else Nx H3) := by
  refine lc_it w (fun i H => R H ∧ ∃ acc, H D = some (.lst acc) ∧ A i acc) ⟨r0, [], upd_same, h0⟩ (fun i H _ p => hG H p.1) (fun i x H H' hi p y => ?_) fun H p => ?_
  · obtain ⟨rH, acc, hD, ha⟩ := p
    refine hs i x H H' acc _ _ hi rH hD ha y (fun v H4 r4 d4 a4 => ⟨acc, d4, ?_, r1 _ _ r4, _, upd_same, a4⟩) (fun H3 r3 d3 a3 => ⟨r3, acc, d3, a3⟩)
    have := hA i acc ha
    omega
  · obtain ⟨rH, acc, hD, ha⟩ := p
    exact hd H acc rH hD ha
/-- no test -/
theorem yes_te {te : TE} {σ : L2.St} {H : Hp} {C : VK} {N : Hp → Prop} (h : te σ H C) : tYes σ H fun b H3 => if b = true then te σ H3 C else N H3 := by
  show (if true = true then te σ H C else N H)
  rw [if_pos rfl]
  exact h
section
variable {X : Cx}
theorem call_lenT : CallR X (.builtin "len") (fun xs H Q => ∃ l, xs = [tx l] ∧ l.length ≤ sizeLine ∧ Q (.int (l.length : Int)) H) := by
  intro pins s σ H xs us Q I r h
  obtain ⟨l, rfl, hz, q⟩ := h
  exact call_len_str pins s σ H _ us Q I r ⟨_, rfl, by rw [tS_len]; exact hz, by rw [tS_len]; exact q⟩
end
theorem walk_tx {l : List Nat} : Walk (Its (tS l)) l.length (fun _ => True) (fun i H v H' => H' = H ∧ ∃ c, l[i]? = some c ∧ v = tx [c]) := by
  have e : (tS l).cps.size = l.length := tS_len l
  refine ⟨fun i _ hi _ => ?_, fun _ _ => ?_, fun i H v H' _ _ y => ?_⟩
  · show i < (tS l).cps.size
    rw [e]; exact hi
  · show (tS l).cps.size ≤ l.length
    rw [e]; exact Nat.le_refl _
  · obtain ⟨h1, c, h2, h3⟩ := y
    exact ⟨h1, c, by simpa [tS] using h2, h3⟩
end L3
namespace L3
open PySem PySem.Spec PyProof.Rows L2
/-- what repr asks of data -/
structure Shw (d : PyData) : Prop where
  s : d.showable = true
  z : d.shown.length ≤ sizeLine
  p : d.depth ≤ 50
def dTx (ls : List (List Nat)) : List PyData := ls.map fun l => PyData.str (tS l)
theorem dp_txs {K : PySem.W.Frag} {H : Hp} : ∀ ls : List (List Nat), DpAll K H (ls.map tx) (dTx ls)
  | [] => .nil
  | l :: ls => .cons (.str _) (dp_txs ls)
def k1 {α : Type} : List α → List α → List α
  | [], [w] => [w]
  | _, _ => []
def k2 {α : Type} : List α → List α → List α
  | [], [w, v] => [v, w]
  | _, _ => []
theorem k2_rel : ∀ {vs : List V} {us : List Value} {zs : List V} {ws : List Value}, Vals vs us → Vals zs ws → Vals (k2 vs zs) (k2 us ws)
  | _, _, _, _, .nil, .nil => .nil
  | _, _, _, _, .nil, .cons _ .nil => .nil
  | _, _, _, _, .nil, .cons r (.cons s .nil) => .cons s (.cons r .nil)
  | _, _, _, _, .nil, .cons _ (.cons _ (.cons _ _)) => .nil
  | _, _, _, _, .cons _ _, .nil => .nil
  | _, _, _, _, .cons _ _, .cons _ _ => .nil
/-- f(m = v, n = w), the other way round -/
theorem kb2 {K : PySem.W.Frag} {x n m : Str} {st : Stmt} {f : Addr} {fd : FuncData} (F : Fun K x x st f fd)
    (h : ∀ (kV doc pm : Value) (an : Option Addr) (cdv ct w v : Value), bindArgs (PySem.W.fnOf x x (defArgs st) (defBody st) (defScope st) .none kV doc pm an cdv ct) ⟨[], [(m, w), (n, v)]⟩ = pure [(n, v), (m, w)]) : KBinds K fd [n, m] [m, n] k2 k2 := by
  refine ⟨fun s us ws X hl => ?_, k2_rel⟩
  obtain ⟨oc, od, kV, doc, pm, an, cdv, ct, osl, rfl, lk, hcd⟩ := F.ex
  match us, ws, hl with
  | [], [w, v], _ => exact .of_eq (h kV doc pm an cdv ct w v)
end L3
namespace L3
open PySem PySem.Spec PyProof.Rows L2
end L3
namespace L3
open PySem PySem.Spec PyProof.Rows L2
end L3
namespace L3
open PySem PySem.Spec PyProof.Rows L2
theorem sq_put {K : PySem.W.Frag} {a D : Addr} {xs : List V} {H : Hp} {o : HO} (h : SqL K H a xs) (n : a ≠ D) : SqL K (upd H D o) a xs := by
  rcases h with (h | ⟨o', h⟩) | h
  · exact .inl (.inl (by rw [upd_ne n]; exact h))
  · exact .inl (.inr ⟨o', by rw [upd_ne n]; exact h⟩)
  · exact .inr h
theorem sq_new {K : PySem.W.Frag} {a D : Addr} {xs : List V} {H : Hp} {o : HO} (h : SqL K H a xs) (n : H D = none) : SqL K (upd H D o) a xs := by
  rcases h with (h | ⟨o', h⟩) | h
  · exact .inl (.inl (same_upd n _ _ h))
  · exact .inl (.inr ⟨o', same_upd n _ _ h⟩)
  · exact .inr h
theorem sq_same {K : PySem.W.Frag} {a : Addr} {xs : List V} {H H' : Hp} (h : SqL K H a xs) (s : Same H H') : SqL K H' a xs := by
  rcases h with (h | ⟨o', h⟩) | h
  · exact .inl (.inl (s _ _ h))
  · exact .inl (.inr ⟨o', s _ _ h⟩)
  · exact .inr h
/-- an if whose test comes out false -/
theorem if_no {tc : TT} {t u : TS} {D : Ends} {σ : L2.St} {H : Hp} (R : Hp → Prop) (hc : ∀ Q : Bool → Hp → Prop, (∀ H1, R H1 → Q false H1) → tc σ H Q) (k : ∀ H1, R H1 → u D σ H1) : tIfS tc t u D σ H :=
  hc _ fun H1 r => iteF (k H1 r)
theorem next_to {D : Ends} {σ : L2.St} {H : Hp} (h : D.nx σ H) : tNext D σ H := h
end L3
namespace L3
open PySem PySem.Spec PyProof.Rows L2
/-- a comprehension: R of the heap, A of the list so far; R asked of heaps that hold the list -/
theorem lc_gen2 {J : It} {n : Nat} {G : Hp → Prop} {Y : Nat → Hp → V → Hp → Prop} (w : Walk J n G Y) {g : TG} {tt : TT} {te : TE} {vs : List Nat} {σ : L2.St} {H1 : Hp} {D : Addr} {Qd : Hp → Prop} (R : Hp → Prop) (A : Nat → List V → Prop) (hz : n ≤ sizeLine) (hA : ∀ i acc, A i acc → acc.length ≤ i)
    (h0 : A 0 []) (r0 : R (upd H1 D (.lst []))) (r1 : ∀ H acc acc', H D = some (.lst acc) → R H → R (upd H D (.lst acc'))) (hG : ∀ H, R H → G H)
    (hs : ∀ i x H H' acc (C : VK) (N : Hp → Prop), i < n → R H → H D = some (.lst acc) → A i acc → Y i H x H' → (∀ v H4, R H4 → H4 D = some (.lst acc) → A (i + 1) (acc ++ [v]) → C v H4) → (∀ H3, R H3 → H3 D = some (.lst acc) → A (i + 1) acc → N H3) →
      g x (wipe σ vs) H' fun σ2 H2 => wipe σ2 vs = wipe σ vs ∧ tt σ2 H2 fun b H3 => if b = true then te σ2 H3 C else N H3)
    (hd : ∀ H xs, R H → H D = some (.lst xs) → A n xs → Qd H) :
    ∃ W : Nat → Nat → Hp → Prop, (∃ m, W 0 m (upd H1 D (.lst []))) ∧ ∀ i m H, W i m H →
      (J.stop i H ∧ Qd H) ∨ (J.go i H ∧ ∃ Nx : Hp → Prop, (∀ H', Nx H' → ∃ m', m' < m ∧ W (i + 1) m' H') ∧ ∀ x H', J.yld i H x H' → g x (wipe σ vs) H' fun σ2 H2 => wipe σ2 vs = wipe σ vs ∧ tt σ2 H2 fun b H3 =>
        if b = true then te σ2 H3 fun y H4 => ∃ acc, H4 D = some (.lst acc) ∧ acc.length < sizeLine ∧ Nx (upd H4 D (.lst (acc ++ [y]))) else Nx H3) := by
  refine lc_it w (fun i H => R H ∧ ∃ acc, H D = some (.lst acc) ∧ A i acc) ⟨r0, [], upd_same, h0⟩ (fun i H _ p => hG H p.1) (fun i x H H' hi p y => ?_) fun H p => ?_
  · obtain ⟨rH, acc, hD, ha⟩ := p
    refine hs i x H H' acc _ _ hi rH hD ha y (fun v H4 r4 d4 a4 => ⟨acc, d4, ?_, r1 _ _ _ d4 r4, _, upd_same, a4⟩) (fun H3 r3 d3 a3 => ⟨r3, acc, d3, a3⟩)
    have := hA i acc ha
    omega
  · obtain ⟨rH, acc, hD, ha⟩ := p
    exact hd H acc rH hD ha
end L3
namespace L3
open PySem PySem.Spec PyProof.Rows L2
/-- an element that is a text, with the hash that the world gives it -/
def GoodT (w : World) (e : Int × Value) : Prop := ∃ l tk, e.2 = Value.str (tS l) tk ∧ e.1 = hashStr w (tS l)
def txtOf (e : Int × Value) : List Nat := match e.2 with | .str x _ => x.cps.toList | _ => []
theorem txt_tS (l : List Nat) (h : Int) (tk : Tok) : txtOf (h, Value.str (tS l) tk) = l := by simp [txtOf, tS]
theorem tS_txt (x : Str) : tS x.cps.toList = x := by cases x; simp [tS]
/-- the object at a is a set of the texts L -/
def SetT (w : World) (h : Heap) (a : Addr) (L : List (List Nat)) : Prop :=
  ∃ o es ep t, h.get? a = some o ∧ o.ExactSet ∧ o.data = .set es ep t ∧ (∀ e ∈ es.toList, GoodT w e) ∧ (es.toList.map txtOf).Perm L ∧ L.Nodup ∧
    es.size < scanBound ∧ t.fits es.size = true ∧ Ris t.place.toList ∧ (w.params.followText "set-order" = true ∨ t.led = true)
section
variable {P : Program} {w : World} {A : Around} {E : Value → Shared → Prop} {s : Shared} {a : Addr} {L : List (List Nat)}
theorem SetT.at {h h' : Heap} (R : SetT w h a L) (k : ∀ o, h.get? a = some o → h'.get? a = some o) : SetT w h' a L := by
  obtain ⟨o, es, ep, t, ho, r⟩ := R
  exact ⟨o, es, ep, t, k o ho, r⟩
theorem goodT_elems {l : List (Int × Value)} (g : ∀ e ∈ l, GoodT w e) : ElemsOf (PySem.strKind P w) l := fun e he => by
  obtain ⟨x, tk, h1, h2⟩ := g e he
  exact ⟨⟨tS x, by rw [h1]; exact strKind_is P w _ _, h2⟩, by rw [h1]; rfl⟩
theorem goodT_is {e : Int × Value} (g : GoodT w e) (l : List Nat) : (PySem.strKind P w).is (tS l) e.2 = true ↔ txtOf e = l := by
  obtain ⟨x, tk, h1, h2⟩ := g
  have e1 : txtOf e = x := by unfold txtOf; rw [h1]
  rw [e1, h1]
  show Value.isStrOf (tS l) (Value.str (tS x) tk) = true ↔ _
  constructor
  · intro h
    obtain ⟨u, hu⟩ := Value.isStrOf_shape h
    injection hu with hx
    have := congrArg (fun z : Str => z.cps.toList) hx
    simpa [tS] using this
  · rintro rfl
    exact strKind_is P w (tS _) tk
theorem setT_tail {g : Bool → Sem Unit} (hg : ∀ (b : Bool) (s₁ : Shared) (Q' : Unit → Shared → Prop), Q' () s₁ → wpAny (model P w) A (g b) Q' E s₁)
    {o : Obj} {es : Array (Int × Value)} {ep : Nat} {t : SetTable} (ho : s.heap.get? a = some o) (hex : o.ExactSet) (hd : o.data = .set es ep t)
    {es1 : Array (Int × Value)} {t2 : SetTable} {L' : List (List Nat)} (g1 : ∀ e ∈ es1.toList, GoodT w e) (p1 : (es1.toList.map txtOf).Perm L') (nd : L'.Nodup)
    (hb1 : es1.size < scanBound) (hf2 : t2.fits es1.size = true) (hr : Ris t2.place.toList) (hl : w.params.followText "set-order" = true ∨ t2.led = true) {wasDummy : Bool} {R : Option Bool → Shared → Prop}
    (hR : ∀ h', Heap.SameBut a s.heap h' → SetT w h' a L' → R (some true) { s with heap := h' }) :
    wpAny (model P w) A (do
        storeSet a es1 t2
        if (!wasDummy && t2.tooFull) = true then do
            g (relayAll t2 es1 (SetTable.grown es1.size)).2.2
            storeSet a (relayAll t2 es1 (SetTable.grown es1.size)).1 (relayAll t2 es1 (SetTable.grown es1.size)).2.1
            pure (some true)
          else pure (some true)) R E s := by
  refine wpAny_bind (wpAny_storeSet_of ho hd ?_ (fits_of_scanBound hb1))
  have q1 := store_at (es' := es1) (t' := t2) ho hd
  have sb := Heap.SameBut.update s.heap a (Obj.putSet es1 t2)
  split
  · have pm := relayAll_perm t2 es1 (SetTable.grown es1.size)
    have f3 := relayAll_fits t2 es1 (SetTable.grown es1.size)
    have r3 := relayAll_ris t2 es1 (SetTable.grown es1.size)
    have l3 := relayAll_led t2 es1 (SetTable.grown es1.size)
    generalize relayAll t2 es1 (SetTable.grown es1.size) = Z at pm f3 r3 l3 ⊢
    obtain ⟨es2, t3, gv⟩ := Z
    dsimp only at pm f3 r3 l3 ⊢
    have sz : es2.size = es1.size := by rw [← Array.length_toList, pm.length_eq, Array.length_toList]
    refine wpAny_bind (hg _ _ _ ?_)
    refine wpAny_bind (wpAny_storeSet_of q1 rfl ?_ (fits_of_scanBound (by rw [sz]; exact hb1)))
    refine wpAny_pure (hR _ (sb.trans (Heap.SameBut.update _ a _)) ⟨_, es2, _, t3, store_at (es' := es2) (t' := t3) q1 rfl, hex, rfl, fun e he => g1 e (pm.mem_iff.mp he), (pm.map txtOf).trans p1, nd, by rw [sz]; exact hb1, f3, r3, ?_⟩)
    rcases hl with z | z
    · exact .inl z
    · exact .inr (by rw [l3]; exact z)
  · exact wpAny_pure (hR _ sb ⟨_, es1, _, t2, q1, hex, rfl, g1, p1, nd, hb1, hf2, hr, hl⟩)
theorem setT_add {l : List Nat} {tk : Tok} {Q : Bool → Shared → Prop} (R : SetT w s.heap a L) (room : L.length + 1 < scanBound)
    (hQ : ∀ b h', Heap.SameBut a s.heap h' → SetT w h' a (if l ∈ L then L else L ++ [l]) → Q b { s with heap := h' }) :
    wpAny (model P w) A (setAddHashed a (.str (tS l) tk) ((PySem.strKind P w).hash (tS l))) Q E s := by
  obtain ⟨o, es, ep, t, ho, hex, hd, g, pL, nd, hb, hf, hr, hl⟩ := R
  have hkey : (PySem.strKind P w).is (tS l) (.str (tS l) tk) = true := strKind_is P w _ tk
  have hel : ElemsOf (PySem.strKind P w) es.toList := goodT_elems g
  have hn : es.size = L.length := by rw [← Array.length_toList, ← pL.length_eq, List.length_map]
  unfold setAddHashed setAddHashedIn
  refine wpAny_holding (wpAny_bind (wpAny_setState_of ho hd hf ?_))
  dsimp only
  rw [byScan_of (knd := PySem.strKind P w) rfl hb hel]
  simp only [↓reduceIte]
  unfold setAddByScan
  refine wpAny_bind ?_
  refine wpAny_bind (wpAny_rule ?_)
  refine wpAny_bind (wpAny_setScan_of hkey ho hd hf hel ?_)
  cases hfi : List.findIdx? (fun e => (PySem.strKind P w).is (tS l) e.2) es.toList with
  | some j =>
    dsimp only
    obtain ⟨hj, pj, _⟩ := List.findIdx?_eq_some_iff_getElem.mp hfi
    have hm : l ∈ L := pL.mem_iff.mp (List.mem_map.mpr ⟨_, List.getElem_mem hj, (goodT_is (P := P) (g _ (List.getElem_mem hj)) l).mp pj⟩)
    refine wpAny_pure (wpAny_pure ?_)
    have q := hQ false s.heap (Heap.SameBut.refl a s.heap) (by rw [if_pos hm]; exact ⟨o, es, ep, t, ho, hex, hd, g, pL, nd, hb, hf, hr, hl⟩)
    exact q
  | none =>
    dsimp only
    have hm : l ∉ L := fun z => by
      obtain ⟨e, he, q⟩ := List.mem_map.mp (pL.mem_iff.mpr z)
      have c := List.findIdx?_eq_none_iff.mp hfi e he
      rw [(goodT_is (P := P) (g e he) l).mpr q] at c
      cases c
    have hgw : ∀ (b : Bool) {s₁ : Shared} {Q' : Unit → Shared → Prop}, Q' () s₁ → wpAny (model P w) A (match b with | true => rule "set.scan.the-table-gave-way" | false => pure ()) Q' E s₁ :=
      fun b s₁ Q' q => by cases b <;> first | exact wpAny_pure q | exact wpAny_rule q
    have pm := layNew_perm t es ((PySem.strKind P w).hash (tS l)) (.str (tS l) tk)
    have hf1 := layNew_fits t es ((PySem.strKind P w).hash (tS l)) (.str (tS l) tk)
    have hr1 := layNew_ris t es ((PySem.strKind P w).hash (tS l)) (.str (tS l) tk) hr
    have hl1 := layNew_led t es ((PySem.strKind P w).hash (tS l)) (.str (tS l) tk)
    generalize layNew t es ((PySem.strKind P w).hash (tS l)) (.str (tS l) tk) = Z at pm hf1 hr1 hl1 ⊢
    obtain ⟨es1, t1, wd, gv⟩ := Z
    dsimp only at pm hf1 hr1 hl1 ⊢
    rw [Array.toList_push] at pm
    have g1 : ∀ e ∈ es1.toList, GoodT w e := fun e he => by
      rcases List.mem_append.mp (pm.mem_iff.mp he) with z | z
      · exact g e z
      · rw [List.mem_singleton.mp z]; exact ⟨l, tk, rfl, rfl⟩
    have p1 : (es1.toList.map txtOf).Perm (L ++ [l]) := by
      refine (pm.map txtOf).trans ?_
      rw [List.map_append, List.map_cons, List.map_nil, txt_tS]
      exact pL.append_right _
    have nd1 : (L ++ [l]).Nodup := by
      rw [List.nodup_append]
      refine ⟨nd, by simp, fun x hx y hy => ?_⟩
      rw [List.mem_singleton.mp hy]
      exact fun z => hm (z ▸ hx)
    have hsz : es1.size = L.length + 1 := by rw [← Array.length_toList, pm.length_eq, List.length_append, Array.length_toList, hn]; rfl
    have hb1 : es1.size < scanBound := by rw [hsz]; exact room
    have hled : w.params.followText "set-order" = true ∨ t1.led = true := by
      rcases hl with z | z
      · exact .inl z
      · exact .inr (by rw [hl1]; exact z)
    have fin : ∀ h', Heap.SameBut a s.heap h' → SetT w h' a (L ++ [l]) → Q true { s with heap := h' } := fun h' sb r => hQ true h' sb (by rw [if_neg hm]; exact r)
    refine wpAny_bind (hgw _ ?_)
    split
    · refine wpAny_bind ?_
      rw [hashByValue_scannable 8 rfl]
      refine wpAny_pure ?_
      refine setT_tail ?_ ho hex hd g1 p1 nd1 hb1 ?_ ?_ ?_ ?_
      · intro b s₁ Q' q; cases b <;> first | exact wpAny_pure q | exact wpAny_rule q
      · first | (split <;> first | exact hf1 | exact SetTable.fits_plain_off hf1) | exact hf1
      · first | (split <;> exact hr1) | exact hr1
      · first | (split <;> exact hled) | exact hled
      · intro h' sb r; dsimp only; exact wpAny_pure (fin h' sb r)
    · refine wpAny_bind (wpAny_pure ?_)
      simp only [↓reduceIte]
      refine setT_tail ?_ ho hex hd g1 p1 nd1 hb1 hf1 hr1 hled ?_
      · intro b s₁ Q' q; cases b <;> first | exact wpAny_pure q | exact wpAny_rule q
      · intro h' sb r; dsimp only; exact wpAny_pure (fin h' sb r)
end
end L3
namespace L3
open PySem PySem.Spec PyProof.Rows L2
/-- the first ones, each once -/
def ded (val : Nat → List Nat) : Nat → List (List Nat)
  | 0 => []
  | i + 1 => if val i ∈ ded val i then ded val i else ded val i ++ [val i]
theorem ded_len (val : Nat → List Nat) : ∀ i, (ded val i).length ≤ i
  | 0 => Nat.le_refl _
  | i + 1 => by
    have := ded_len val i
    unfold ded
    split
    · omega
    · rw [List.length_append]
      exact Nat.succ_le_succ this
theorem ded_mem (val : Nat → List Nat) (l : List Nat) : ∀ i, l ∈ ded val i ↔ ∃ j, j < i ∧ val j = l
  | 0 => by simp [ded]
  | i + 1 => by
    have ih := ded_mem val l i
    unfold ded
    split
    · rename_i h
      rw [ih]
      refine ⟨fun ⟨j, h1, h2⟩ => ⟨j, by omega, h2⟩, fun ⟨j, h1, h2⟩ => ?_⟩
      by_cases e : j = i
      · subst e
        rw [h2] at h
        exact ih.mp h
      · exact ⟨j, by omega, h2⟩
    · rw [List.mem_append, ih, List.mem_singleton]
      constructor
      · rintro (⟨j, h1, h2⟩ | h)
        · exact ⟨j, by omega, h2⟩
        · exact ⟨i, by omega, h.symm⟩
      · rintro ⟨j, h1, h2⟩
        by_cases e : j = i
        · exact .inr (by rw [← h2, e])
        · exact .inl ⟨j, by omega, h2⟩
section
variable {prog : Program} {w : World} {A : Around} {R : Result → Shared → Prop} {I : Addr} {fp wr : List Addr} {G : Array GenState → Array GenState → Prop} {n : Nat} {P : Nat → Value → Prop} {St : Nat → Shared → Prop}
theorem set_loopT (W : WalksS prog w A.in1 I fp wr G n P St) (S : Addr) (hSf : S ∉ fp) (val : Nat → List Nat) (hval : ∀ i v, P i v → ∃ t, v = Value.str (tS (val i)) t) (hb : n + 1 < scanBound) :
    ∀ (k i : Nat) (s : Shared), n - i = k → i ≤ n → St i s → SetT w s.heap S (ded val i) →
      (∀ s', Moved (S :: wr) G s s' → SetT w s'.heap S (ded val n) → R (.ok (.ret .none)) s') →
      codeAny (model prog w) A (.builtin "set.update.loop" ⟨[.ref S, .ref I], []⟩) R s := by
  have hSw : S ∉ wr := fun h => hSf (W.sub _ h)
  have sub : ∀ b ∈ wr, b ∈ S :: wr := fun b hb => List.mem_cons_of_mem _ hb
  intro k
  induction k with
  | zero =>
    intro i s hk hi hst hS hR
    obtain rfl : i = n := by omega
    refine codeAny_builtin PyProof.Rows.F.entry_set_update_loop ?_
    rw [Around.under_plainId PyProof.Rows.F.plain_set_update_loop _]
    show wpAny _ A.in1 (pyNext (.ref I) >>= _) _ _ s
    refine wpAny_bind (W.done s _ _ hst fun s' hm => ?_)
    show wpAny _ A.in1 (ret Value.none) _ _ s'
    exact wpAny_pure (hR s' (hm.mono sub) (hS.at fun o ho => hm.heap S _ hSw ho))
  | succ k ih =>
    intro i s hk hi hst hS hR
    have hlt : i < n := by omega
    refine codeAny_builtin PyProof.Rows.F.entry_set_update_loop ?_
    rw [Around.under_plainId PyProof.Rows.F.plain_set_update_loop _]
    show wpAny _ A.in1 (pyNext (.ref I) >>= _) _ _ s
    refine wpAny_bind (W.item i s _ _ hlt hst fun v s' hP hst' hm => ?_)
    obtain ⟨t, rfl⟩ := hval i v hP
    have hS' : SetT w s'.heap S (ded val i) := hS.at fun o ho => hm.heap S _ hSw ho
    show wpAny _ A.in1 (holding [Value.str (tS (val i)) t] (setAdd S (.str (tS (val i)) t)) >>= _) _ _ s'
    refine wpAny_bind (wpAny_holding ?_)
    unfold setAdd
    refine wpAny_holding ?_
    refine wpAny_bind ((PySem.strKind prog w).pyHash (k := tS (val i)) (strKind_is prog w _ t) ?_)
    have room : (ded val i).length + 1 < scanBound := by have := ded_len val i; omega
    refine setT_add (P := prog) (s := { s' with toks := s'.toks + 1 }) hS' room fun b h' sb hS2 => ?_
    refine wpAny_pure ⟨plainId_quiet PyProof.Rows.F.plain_set_update_loop _, ih (i + 1) _ (by omega) hlt (W.frame _ s' _ _ hst' (Nat.le_succ _) fun b hb o e => ?_) hS2 fun s'' hm'' hS'' => ?_⟩
    · rw [sb.2 b (fun h : b = S => hSf (by rw [← h]; exact hb))]; exact e
    · refine hR s'' (Moved.trans W.gtrans ((hm.mono sub).then_heap (Nat.le_succ _) fun b o hb e => ?_) hm'') hS''
      rw [sb.2 b (fun h : b = S => hb (by rw [h]; exact List.mem_cons_self))]; exact e
end
section
variable {P : Program} {w : World} {A : Around} {E : Value → Shared → Prop} {s : Shared}
theorem code_set_led1 (a : Value) {Q₁ : Value → Shared → Prop}
    (h : Q₁ (.ref s.heap.objs.size) { s with heap := s.heap.push { cls := .type "set", dict := none, data := .set #[] 0 (.fresh 0 0 (!w.params.followText "set-order")) } }) :
    codeAny (model P w) A (.call (.builtin "set.__new__") ⟨[.type "set", a], []⟩) (wants Q₁ E) s := by
  refine codeAny_of_tree ?_
  show wpAny _ A.in1 (do checkBuiltinCall "set.__new__" ⟨[.type "set", a], []⟩; again (.builtin "set.__new__" ⟨[.type "set", a], []⟩)) _ _ s
  refine wpAny_bind (wpAny_of_eq (PySem.F.newCall_set_1 a) (wpAny_pure ⟨plainId_quiet PySem.F.plain_set_new _, codeAny_builtin PySem.F.entry_set_new ?_⟩))
  rw [Around.under_plainId PySem.F.plain_set_new _]
  unfold Builtin.«set.__new__» Builtin.Frozenset.newClass
  have hsub := sub_set_self
  obtain ⟨hp, g, d, tk, os⟩ := s
  dsimp only
  wp_walk
  refine wpAny_askSetting (wpAny_pure ?_)
  dsimp only
  simp only [newObj]
  refine wpAny_bind (wpAny_alloc (wpAny_pure ?_))
  exact wpAny_pure h
theorem setT_fresh {h : Heap} (w : World) : SetT w (h.push { cls := .type "set", dict := none, data := .set #[] 0 (.fresh 0 0 (!w.params.followText "set-order")) }) h.objs.size [] := by
  refine ⟨_, #[], 0, _, Heap.get?_push_size _ rfl, ⟨rfl, rfl, rfl⟩, rfl, (fun e he => by simp at he), .refl _, List.nodup_nil, by decide, rfl, List.Pairwise.nil, ?_⟩
  show _ ∨ (!w.params.followText "set-order") = true
  cases w.params.followText "set-order"
  · exact .inr rfl
  · exact .inl rfl
end
end L3
namespace L3
open PySem PySem.Spec PyProof.Rows L2
theorem sub_str_set : isSubtype (.type "str") (.type "set") = pure false := by rw [isSubtype_type]; kernel_rfl
theorem sub_str_frozenset : isSubtype (.type "str") (.type "frozenset") = pure false := by rw [isSubtype_type]; kernel_rfl
section
variable {P : Program} {w : World} {A : Around} {E : Value → Shared → Prop} {s : Shared}
set_option maxHeartbeats 8000000 in
/-- set(text) -/
theorem call_set_text {x : List Nat} {tx0 : Tok} {Q : Value → Shared → Prop} (hh : A.handled = none) (hb : x.length + 1 < scanBound)
    (h : ∀ (h' : Heap) (tk : Nat), SetT w h' s.heap.objs.size (ded (fun i => [x.getD i 0]) x.length) →
      (∀ b o, b < s.heap.objs.size → s.heap.get? b = some o → h'.get? b = some o) → Q (.ref s.heap.objs.size) { s with heap := h', toks := tk }) :
    wpAny (model P w) A (call (.type "set") [.str (tS x) tx0]) Q E s := by
  obtain ⟨c, tl, hmro⟩ := PySem.F.called_set.mro
  have hmade := PySem.F.called_set.made
  have hsub := PySem.F.called_set.sub
  refine wpAny_call (codeAny_of_tree ?_)
  show wpAny _ _ (callAny (.type "set") _) _ _ _
  refine wpAny_pure ⟨Code.quiet_builtin _ (by decide +kernel), codeAny_builtin PySem.F.entry_type_call ?_⟩
  rw [Around.under_plain (weight_type_call_type "set" [.str (tS x) tx0] []) rfl]
  have h1 := PySem.F.called_set.notType
  have h2 := PySem.F.called_set.canCreate
  have hct := PySem.F.typeCall_set_1 (.str (tS x) tx0)
  repeat (any_goals (first | assumption | wp_step))
  refine codeAny_mono (code_set_led1 (.str (tS x) tx0) (E := E) (Q₁ := fun obj s₁ => obj = .ref s.heap.objs.size ∧ s₁ = { s with heap := s.heap.push { cls := .type "set", dict := none, data := .set #[] 0 (.fresh 0 0 (!w.params.followText "set-order")) } }) ⟨rfl, rfl⟩) fun r s₁ hr => ?_
  cases r with
  | error e => exact hr
  | ok fl =>
    cases fl with
    | ret obj =>
      obtain ⟨rfl, rfl⟩ := hr
      have hS : (s.heap.push { cls := .type "set", dict := none, data := .set #[] 0 (.fresh 0 0 (!w.params.followText "set-order")) }).get? s.heap.objs.size = some { cls := .type "set", dict := none, data := .set #[] 0 (.fresh 0 0 (!w.params.followText "set-order")) } := Heap.get?_push_size _ rfl
      have hT : Shared.TypeIs { s with heap := s.heap.push { cls := .type "set", dict := none, data := .set #[] 0 (.fresh 0 0 (!w.params.followText "set-order")) } } (.ref s.heap.objs.size) "set" := ⟨_, hS, rfl⟩
      have hli := PySem.F.called_set.init.lookup
      have hbi := PySem.F.called_set.init.bind (.ref s.heap.objs.size)
      repeat (any_goals (first | assumption | wp_step))
      refine codeAny_mono (codeAny_call_builtin (R := wants (fun r s₂ => r = .none ∧ ∃ h' tk, s₂ = { s with heap := h', toks := tk } ∧ SetT w h' s.heap.objs.size (ded (fun i => [x.getD i 0]) x.length) ∧
          (∀ b o, b < s.heap.objs.size → s.heap.get? b = some o → h'.get? b = some o)) E) PySem.F.called_set.init.plain PySem.F.entry_set_init (PySem.check_set_init_1 hT ?_)) fun r₂ s₂ hr₂ => ?_
      · have hsls := sub_str_set
        have hslf := sub_str_frozenset
        have hne : (Value.type "str" == Value.type "dict") = false := by decide
        unfold Builtin.«set.__init__» noKeywords Builtin.Frozenset.updateFrom
        generalize hPI : pyIter = PI
        wp_walk
        subst hPI
        refine wpAny_pyIter_str fun oi St hW hst => ?_
        refine wpAny_bind (wpAny_runValue ?_)
        have hh3 : A.in1.in1.in1.handled = none := by simp [hh]
        have hsz : (s.heap.push { cls := .type "set", dict := none, data := .set #[] 0 (.fresh 0 0 (!w.params.followText "set-order")) }).objs.size = s.heap.objs.size + 1 := Heap.size_push _ _
        have hSf : s.heap.objs.size ∉ [(s.heap.push { cls := .type "set", dict := none, data := .set #[] 0 (.fresh 0 0 (!w.params.followText "set-order")) }).objs.size] := by
          rw [hsz]
          simp
        have hn : (tS x).cps.size = x.length := tS_len x
        have hval : ∀ (i : Nat) (v : Value), SignAt (tS x) i v → ∃ t, v = Value.str (tS [x.getD i 0]) t := fun i v hv => by
          obtain ⟨c, u, hc, rfl⟩ := hv
          have hc' : x[i]? = some c := by simpa [tS] using hc
          refine ⟨u, ?_⟩
          rw [List.getD_eq_getElem?_getD, hc']
          rfl
        refine set_loopT ((hW _ hh3).toS) s.heap.objs.size hSf (fun i => [x.getD i 0]) hval (by rw [hn]; exact hb) _ 0 _ rfl (Nat.zero_le _) hst ((setT_fresh w).at fun o ho => Heap.get?_push_of_some _ ho) fun s' hm hS' => ?_
        obtain ⟨h', g', d', tk', os'⟩ := s'
        have eg : g' = s.gens := hm.gens
        have ed : d' = s.drawn := hm.drawn
        have eo : os' = s.os := hm.os
        subst eg ed eo
        rw [hn] at hS'
        show wpAny _ _ _ _ _ _
        refine wpAny_pure ?_
        show wpAny _ _ (ret Value.none) _ _ _
        refine wpAny_pure ⟨rfl, h', tk', rfl, hS', fun b o hb e => ?_⟩
        refine hm.heap b o (fun z => ?_) (Heap.get?_push_of_some _ (Heap.get?_push_of_some _ e))
        simp only [List.mem_cons, List.not_mem_nil, or_false] at z
        rcases z with z | z
        · exact absurd z (Nat.ne_of_lt hb)
        · rw [hsz] at z
          exact absurd z (Nat.ne_of_lt (Nat.lt_succ_of_lt hb))
      · cases r₂ with
        | error e => exact hr₂
        | ok fl₂ =>
          cases fl₂ with
          | ret r =>
            obtain ⟨rfl, h', tk, rfl, hS', hk'⟩ := hr₂
            repeat (any_goals (first | assumption | wp_step))
            exact h _ _ hS' hk'
          | _ => exact hr₂.elim
    | _ => exact hr.elim
end
end L3
namespace L3
open PySem PySem.Spec PyProof.Rows L2
def sVal (v : Value) : Str := match v with | .str x _ => x | _ => Str.empty
theorem strs_of : ∀ (l : List Value), (∀ v ∈ l, ∃ k tk, v = Value.str k tk) → StrsAre l (l.map sVal)
  | [], _ => .nil
  | v :: l, h => by
    obtain ⟨k, tk, rfl⟩ := h v List.mem_cons_self
    exact .cons k tk (strs_of l fun u hu => h u (List.mem_cons_of_mem _ hu))
section
variable {P : Program} {w : World} {A : Around} {E : Value → Shared → Prop} {s : Shared} {a : Addr} {L : List (List Nat)}
theorem sorted_setX {Q : Value → Shared → Prop} (R : SetT w s.heap a L) (hh : A.handled = none)
    (hQ : ∀ s' p (out : Array Value) (c : Nat) (ss : List Str), (∀ b o, s.heap.get? b = some o → s'.heap.get? b = some o) → s'.gens = s.gens → s'.os = s.os → s.heap.objs.size ≤ p →
      s'.heap.get? p = some (seqObj "list" out c) → StrsAre out.toList ss → ss.Perm (L.map tS) → sortedS ss = true → Q (.ref p) s') :
    wpAny (model P w) A (call (.builtin "sorted") [.ref a]) Q E s := by
  obtain ⟨o, es, ep, t, ho, hex, hd, g, pL, nd, hb, hf, hr, hl⟩ := R
  refine Calls.call_function_entry kind_sorted plain_sorted entry_sorted (args_sorted1 _) ?_
  unfold Builtin.«sorted»
  refine wpAny_bind (m := checkCount "sorted" 1 1 _) (wpAny_pure ?_)
  refine wpAny_bind (collect_set (A := A.in1) hh ⟨o, ho, hex.1, hd⟩ hf hb hr hl fun s1 vs k1 hz g1 o1 pm => ?_)
  have hvl : vs.length = es.size := by rw [pm.length_eq, List.length_map, Array.length_toList]
  have hS : StrsAre vs (vs.map sVal) := strs_of vs fun v hv => by
    obtain ⟨e, he, q⟩ := List.mem_map.mp (pm.mem_iff.mp hv)
    obtain ⟨x, tk, h1, _⟩ := g e he
    exact ⟨tS x, tk, by rw [← q]; exact h1⟩
  have pk : (vs.map sVal).Perm (L.map tS) := by
    refine (pm.map sVal).trans ?_
    rw [List.map_map]
    have e1 : es.toList.map (sVal ∘ fun x => x.2) = (es.toList.map txtOf).map tS := by
      rw [List.map_map]
      refine List.map_congr_left fun e he => ?_
      obtain ⟨x, tk, h1, _⟩ := g e he
      show sVal e.2 = tS (txtOf e)
      unfold txtOf
      rw [h1]
      show tS x = tS (tS x).cps.toList
      rw [tS_txt]
    rw [e1]
    exact pL.map tS
  have hL : vs.length ≤ sizeLine := by rw [hvl]; exact fits_of_scanBound hb
  refine wpAny_bind (wpAny_newList ?_ hL)
  have hoL : (s1.heap.push (seqObj "list" vs.toArray 0)).get? s1.heap.objs.size = some (seqObj "list" vs.toArray 0) := Heap.get?_push_size _ rfl
  refine wpAny_bind (wpAny_holding (wpAny_call_entry slot_list_sort ⟨_, hoL, rfl⟩ entry_list_sort (list_sort_treeKAny strKind_oneLt hoL hS.keysOf (fun v₁ v₂ rest e => keyKind_strs (by rw [← e]; exact hS)) hL fun st' hp hs => ⟨_, rfl, ?_⟩) (args_list_sort _)))
  obtain ⟨ss', a1, a2, a3⟩ := sorted_out_str hS hp hs
  obtain ⟨c, hc⟩ := sortedHeap_at (vs := vs) (out := (arrOf st').map (·.2)) hoL
  refine wpAny_pure ⟨_, rfl, hQ _ s1.heap.objs.size _ c ss' (fun b u e => ?_) g1 o1 hz hc a1 (a2.trans pk) a3⟩
  have q := k1 b u e
  have hlt := Heap.lt_size q
  show (sortedHeap (s1.heap.push (seqObj "list" vs.toArray 0)) s1.heap.objs.size vs _).get? b = some u
  rw [sortedHeap_old (Nat.ne_of_lt hlt) (by rw [size_push']; exact Nat.lt_succ_of_lt hlt)]
  exact Heap.get?_push_of_some _ q
end
end L3
namespace L3
open PySem PySem.Spec PyProof.Rows L2
/-- the set of the texts L at a -/
def TSet (w : World) (a : Addr) (L : List (List Nat)) : HO := .ext fun h => SetT w h a L
/-- the letters of a text, each once -/
def lets (l : List Nat) : List (List Nat) := ded (fun i => [l.getD i 0]) l.length
theorem lets_mem {l x : List Nat} : x ∈ lets l ↔ ∃ c, c ∈ l ∧ x = [c] := by
  unfold lets
  rw [ded_mem]
  constructor
  · rintro ⟨j, hj, rfl⟩
    refine ⟨l.getD j 0, ?_, rfl⟩
    rw [List.getD_eq_getElem?_getD, List.getElem?_eq_getElem hj]
    exact List.getElem_mem hj
  · rintro ⟨c, hc, rfl⟩
    obtain ⟨j, hj, rfl⟩ := List.getElem_of_mem hc
    exact ⟨j, hj, by rw [List.getD_eq_getElem?_getD, List.getElem?_eq_getElem hj]; rfl⟩
theorem rising_pair : ∀ (ss : List Str) (p : Str), risingS p ss = true → (p :: ss).Pairwise fun a b => ¬ b.cps.toList < a.cps.toList
  | [], p, _ => by simp
  | x :: ss, p, h => by
    have h : (!ltCps x.cps.toList p.cps.toList && risingS x ss) = true := h
    rw [Bool.and_eq_true, Bool.not_eq_true', ltCps_eq, decide_eq_false_iff_not] at h
    have ih := rising_pair ss x h.2
    refine List.pairwise_cons.mpr ⟨fun y hy => ?_, ih⟩
    rcases List.mem_cons.mp hy with rfl | hy
    · exact h.1
    · have h2 := (List.pairwise_cons.mp ih).1 y hy
      exact List.not_lt.mpr (List.le_trans (List.not_lt.mp h.1) (List.not_lt.mp h2))
theorem sorted_pair {ss : List Str} (h : sortedS ss = true) : ss.Pairwise fun a b => ¬ b.cps.toList < a.cps.toList := by
  cases ss with
  | nil => exact List.Pairwise.nil
  | cons x r => exact rising_pair r x h
theorem vals_strsT : ∀ {vs : List Value} {ss : List Str}, StrsAre vs ss → Vals ((ss.map fun z => z.cps.toList).map tx) vs
  | _, _, .nil => .nil
  | _, _, .cons y t k => .cons ⟨t, by show Value.str y t = Value.str (tS y.cps.toList) t; rw [tS_txt]⟩ (vals_strsT k)
theorem up_strict {L : List (List Nat)} (h : L.Pairwise fun a b => ¬ b < a) (d : L.Nodup) : L.Pairwise (· < ·) := by
  induction L with
  | nil => exact List.Pairwise.nil
  | cons x l ih =>
    obtain ⟨h1, h2⟩ := List.pairwise_cons.mp h
    obtain ⟨d1, d2⟩ := List.nodup_cons.mp d
    refine List.pairwise_cons.mpr ⟨fun y hy => ?_, ih h2 d2⟩
    rcases Decidable.em (x < y) with k | k
    · exact k
    · exact absurd (List.le_antisymm (List.not_lt.mp (h1 y hy)) (List.not_lt.mp k)) (fun z => d1 (z ▸ hy))
section
variable {X : Cx}
theorem tset_new {w : World} {P : Program} {H : Hp} {h : Heap} {a : Addr} {L : List (List Nat)} (R : SetT w h a L) : ObjOk P w H h a (TSet w a L) := by
  obtain ⟨o, es, ep, t, ho, r⟩ := id R
  exact ⟨R, ⟨o, ho⟩, fun h1 h2 p k => SetT.at p k⟩
/-- set(text) -/
theorem cr_setT (hc : X.calm = true) : CallR X (.type "set") (fun xs H Q => ∃ l, xs = [tx l] ∧ l.length ≤ 4000 ∧ ∀ p, H p = none → Q (.ref p) (upd H p (TSet X.w p (lets l)))) := by
  intro pins s σ H xs us Q I r h
  obtain ⟨l, rfl, hz, q⟩ := h
  obtain ⟨u, rfl, rx⟩ := vals1 r
  obtain ⟨t, rfl⟩ := rx
  refine call_set_text (I.ok.hd hc) (by unfold scanBound; omega) fun h' tk hS hk => ?_
  exact ⟨.ref _, _, I.laid (t' := tk) (fun b o e => hk b o (Heap.lt_size e) e) (Nat.le_refl _) (tset_new hS), rfl, q _ (I.hok.fresh (Nat.le_refl _))⟩
/-- sorted(set) -/
theorem cr_sortSetT (hc : X.calm = true) : CallR X (.builtin "sorted") (fun xs H Q => ∃ (a : Addr) (L : List (List Nat)), xs = [.ref a] ∧ H a = some (TSet X.w a L) ∧
    ∀ (L' : List (List Nat)) (p : Addr), L'.Perm L → L'.Pairwise (· < ·) → H p = none → Q (.ref p) (upd H p (.lst (L'.map tx)))) := by
  intro pins s σ H vs us Q I r h
  obtain ⟨a, L, rfl, ha, q⟩ := h
  have R : SetT X.w s.heap a L := (I.hok a _ ha).1
  rw [Vals.ref1 r]
  have nd : L.Nodup := by obtain ⟨_, _, _, _, _, _, _, _, _, n, _⟩ := R; exact n
  have hLs : L.length ≤ sizeLine := by
    obtain ⟨_, es, _, _, _, _, _, _, pL, _, hb, _⟩ := R
    rw [← pL.length_eq, List.length_map, Array.length_toList]
    exact fits_of_scanBound hb
  refine sorted_setX R (I.ok.hd hc) fun s' p out c ss k g o hp hg hi pm hs => ?_
  have pL' : (ss.map fun z => z.cps.toList).Perm L := by
    have := pm.map fun z : Str => z.cps.toList
    rw [List.map_map] at this
    have e : L.map ((fun z : Str => z.cps.toList) ∘ tS) = L := by
      conv => rhs; rw [← List.map_id L]
      refine List.map_congr_left fun l _ => ?_
      simp [tS]
    rwa [e] at this
  have hn : H p = none := I.hok.fresh hp
  have J : Inv X pins σ (upd H p (.lst ((ss.map fun z => z.cps.toList).map tx))) { s with heap := s'.heap, gens := s'.gens, drawn := s'.drawn, toks := s'.toks } :=
    I.call (ch := []) (Un.laid k hp hn) (I.hok.laid k hp ⟨by rw [List.length_map, pL'.length_eq]; exact hLs, out.toList, c, vals_strsT hi, hg⟩) (by rw [g]; exact I.bare) (fun _ z => nomatch z)
  have e : s' = { s with heap := s'.heap, gens := s'.gens, drawn := s'.drawn, toks := s'.toks } := by
    cases s'
    cases s
    cases o
    rfl
  rw [e]
  refine ⟨.ref p, _, J, rfl, q _ p pL' (up_strict ?_ (pL'.nodup_iff.mpr nd)) hn⟩
  rw [List.pairwise_map]
  exact sorted_pair hs
/-- len(set) -/
theorem cr_lenSetT : CallR X (.builtin "len") (fun xs H Q => ∃ (a : Addr) (L : List (List Nat)), xs = [.ref a] ∧ H a = some (TSet X.w a L) ∧ Q (.int (L.length : Int)) H) := by
  intro pins s σ H vs us Q I r h
  obtain ⟨a, L, rfl, ha, q⟩ := h
  obtain ⟨o, es, ep, t, ho, hex, hd, _, pL, _, hb, hf, _⟩ : SetT X.w s.heap a L := (I.hok a _ ha).1
  rw [Vals.ref1 r]
  have hn : es.size = L.length := by rw [← pL.length_eq, List.length_map, Array.length_toList]
  refine call_len_set ho hex hd hf (by have hb := hb; unfold scanBound at hb; omega) ⟨.int (L.length : Int), H, I.tok _, ⟨_, by rw [hn]⟩, q⟩
end
end L3
namespace L3
open PySem PySem.Spec PyProof.Rows L2
section
variable {X : Cx} {C f : Addr} {fd : FuncData} {k : Nat} {sp : Sp} {E : XK} {y : Str}
/-- a method run from inside a built-in -/
theorem run_own {pins : List (Addr × Obj)} {σ : L2.St} {H : Hp} {s : Shared} {ps : List Str} {us : List Value} {vs : List V} {Q : VK} {R : Value → Shared → Prop} (F : FnOkG X.prog X.w X.K X.mg X.base CX0 k f fd ps sp) (hr : Room (k + 1) X.A) (hG : X.A.guards = some []) (hb : L2.Binds X.K fd ps [])
    (I : L2.Inv X pins σ H s) (r : Vals vs us) (h : sp vs H Q E0) (hR : ∀ u s', EP X pins σ Q u s' → R u s') {E' : Value → Shared → Prop} : wpAny (model X.prog X.w) X.A.in1 (call (.ref f) us) R E' s := by
  have hl : (us ++ []).length = ps.length := by rw [List.append_nil, ← r.length]; exact F.len _ _ _ _ h
  have hb' : BindsTo s fd ⟨us, []⟩ (ps.zip us) := by
    have := hb s us I.kIn hl
    rwa [List.append_nil] at this
  refine wpAny_call (codeAny_mono (F.run X.A.in1 X.stack s H ⟨us, []⟩ us vs Q E0 hr.in1 hG I.env0.in1 hb' r h) fun r s' hq => ?_)
  cases r with
  | error e => exact (show False from hq).elim
  | ok fl =>
    cases fl with
    | ret u => exact hR u s' (I.after hq)
    | next => exact False.elim hq
    | brk => exact False.elim hq
    | cont => exact False.elim hq
end
end L3
namespace L3
open PySem PySem.Spec PyProof.Rows L2
/-- what is walked -/
inductive Src where
  | L (a : Addr) | T (a : Addr) | S (x : Str)
/-- its items -/
def Src.has (K : PySem.W.Frag) (H : Hp) : Src → List V → Prop
  | .L a, xs => SqL K H a xs
  | .T a, xs => SqT K H a xs
  | .S x, xs => xs = x.cps.toList.map fun c => V.str ⟨#[c]⟩
def Src.val : Src → V
  | .L a => .ref a
  | .T a => .ref a
  | .S x => .str x
def Src.it : Src → Addr → Nat → Heap → Prop
  | .L a, it, i, h => h.IsListIter it a i
  | .T a, it, i, h => h.IsTupleIter it a i
  | .S x, it, i, h => ∃ t, h.IsStrIter it (strIterType x) x t i
theorem vals_back : ∀ {xs : List V} {us : List Value} {i : Nat} {u : Value}, Vals xs us → us[i]? = some u → ∃ x, xs[i]? = some x ∧ RelV x u
  | _, _, _, _, .nil, e => by simp at e
  | _, _, 0, _, .cons r _, e => by simp at e; subst e; exact ⟨_, rfl, r⟩
  | _, _, i + 1, u, .cons _ t, e => by
    obtain ⟨x, h1, h2⟩ := vals_back (i := i) (u := u) t (by simpa using e)
    exact ⟨x, by simpa using h1, h2⟩
theorem Src.obj {z : Src} {it : Addr} {i : Nat} {h : Heap} (st : z.it it i h) : ∃ o, h.get? it = some o ∧ ∀ v, o.data ≠ .cell v := by
  cases z with
  | L a => obtain ⟨o, e, _, d⟩ := st; exact ⟨o, e, fun v q => by rw [d] at q; cases q⟩
  | T a => obtain ⟨o, e, _, d⟩ := st; exact ⟨o, e, fun v q => by rw [d] at q; cases q⟩
  | S x => obtain ⟨t, o, e, _, d⟩ := st; exact ⟨o, e, fun v q => by rw [d] at q; cases q⟩
theorem Src.keep {z : Src} {it : Addr} {i : Nat} {h h' : Heap} (st : z.it it i h) (k : ∀ o, h.get? it = some o → h'.get? it = some o) : z.it it i h' := by
  cases z with
  | L a => exact Heap.IsListIter.at st k
  | T a => exact Heap.IsTupleIter.at st k
  | S x => obtain ⟨t, o, e, r⟩ := st; exact ⟨t, o, k o e, r⟩
section
variable {X : Cx} {pins : List (Addr × Obj)} {σ : L2.St} {H : Hp} {s : Shared}
theorem Src.draws {z : Src} {xs : List V} {it : Addr} {i : Nat} (hh : X.A.handled = none) (I : L2.Inv X pins σ H s) (q : z.has X.K H xs) (st : z.it it i s.heap) (hn : ∀ a, z.val = .ref a → a ≠ it) :
    ∃ (fp : List Addr) (P : Nat → Value → Prop) (St : Nat → Heap → Prop), Draws X.prog X.w X.A.in1 it (it :: fp) xs.length P St ∧ (∀ b ∈ fp, z.val = .ref b) ∧ St i s.heap ∧ (∀ j h, St j h → z.it it j h) ∧ ∀ j v, P j v → ∃ x, xs[j]? = some x ∧ RelV x v := by
  cases z with
  | L a =>
    obtain ⟨its, rv, p, _⟩ := I.list q
    have e : its.toArray.size = xs.length := by rw [List.size_toArray, rv.length]
    refine ⟨[a], fun i v => its.toArray[i]? = some v, fun i h => h.IsListIter it a i ∧ h.IsList a its.toArray, by rw [← e]; exact Draws.list (A := X.A.in1) hh it a (hn a rfl) its.toArray, fun b hb => by rw [List.mem_singleton.mp hb]; rfl, ⟨st, p.isList⟩, fun j h k => k.1, fun j v hv => vals_back rv (by simpa using hv)⟩
  | T a =>
    obtain ⟨its, rv, p, _⟩ := I.tuple q
    have e : its.toArray.size = xs.length := by rw [List.size_toArray, rv.length]
    refine ⟨[a], fun i v => its.toArray[i]? = some v, fun i h => h.IsTupleIter it a i ∧ h.IsTuple a its.toArray, by rw [← e]; exact Draws.tuple (A := X.A.in1) hh it a (hn a rfl) its.toArray, fun b hb => by rw [List.mem_singleton.mp hb]; rfl, ⟨st, p⟩, fun j h k => k.1, fun j v hv => vals_back rv (by simpa using hv)⟩
  | S x =>
    obtain ⟨t, st⟩ := st
    have q : xs = x.cps.toList.map fun c => V.str ⟨#[c]⟩ := q
    have e : x.cps.size = xs.length := by rw [q]; simp
    refine ⟨[], fun i v => ∃ c u, x.cps[i]? = some c ∧ v = .str ⟨#[c]⟩ u, fun i h => h.IsStrIter it (strIterType x) x t i, by rw [← e]; exact Draws.text (A := X.A.in1) hh it x t, fun b hb => (by cases hb), st, fun j h k => ⟨t, k⟩, fun j v hv => ?_⟩
    obtain ⟨c, u, hc, rfl⟩ := hv
    refine ⟨.str ⟨#[c]⟩, ?_, ⟨u, rfl⟩⟩
    rw [q, List.getElem?_map]
    have : x.cps.toList[j]? = some c := by simpa using hc
    rw [this]; rfl
theorem Src.inj {z : Src} {xs ys : List V} (I : L2.Inv X pins σ H s) (h : z.has X.K H xs) (h' : z.has X.K H ys) : xs = ys := by
  cases z with
  | L a => exact I.list_inj h h'
  | T a => exact I.tuple_inj h h'
  | S x => exact (show xs = _ from h).trans (show ys = _ from h').symm
theorem Src.lt {z : Src} {xs : List V} (I : L2.Inv X pins σ H s) (q : z.has X.K H xs) : ∀ a, z.val = .ref a → a < s.heap.objs.size := by
  intro a ha
  cases z with
  | L b =>
    cases ha
    obtain ⟨its, rv, p, _⟩ := I.list q
    exact p.lt
  | T b =>
    cases ha
    obtain ⟨its, rv, ⟨o, e, _⟩, _⟩ := I.tuple q
    exact Heap.lt_size e
  | S x => cases ha
end
end L3
namespace L3
open PySem PySem.Spec PyProof.Rows L2
end L3
namespace L3
open PySem PySem.Spec PyProof.Rows L2
/-- numbers as values -/
def nV (l : List Nat) : List V := l.map fun (n : Nat) => V.int (n : Int)
mutual
theorem Dp.same {K : PySem.W.Frag} {H H' : Hp} (s : Same H H') : ∀ {v : V} {d : PyData}, Dp K H v d → Dp K H' v d
  | _, _, .non => .non
  | _, _, .bl b => .bl b
  | _, _, .int i => .int i
  | _, _, .str x => .str x
  | _, _, .lst h a => .lst (sq_same h s) (DpAll.same s a)
  | _, _, .tup h a => .tup (h.elim (fun h => .inl (h.elim (fun h => .inl (s _ _ h)) fun ⟨o, h⟩ => .inr ⟨o, s _ _ h⟩)) fun h => .inr h) (DpAll.same s a)
theorem DpAll.same {K : PySem.W.Frag} {H H' : Hp} (s : Same H H') : ∀ {vs : List V} {ds : List PyData}, DpAll K H vs ds → DpAll K H' vs ds
  | _, _, .nil => .nil
  | _, _, .cons a b => .cons (Dp.same s a) (DpAll.same s b)
end
theorem sqT_same {K : PySem.W.Frag} {a : Addr} {xs : List V} {H H' : Hp} (h : SqT K H a xs) (s : Same H H') : SqT K H' a xs :=
  h.elim (fun h => .inl (h.elim (fun h => .inl (s _ _ h)) fun ⟨o, h⟩ => .inr ⟨o, s _ _ h⟩)) fun h => .inr h
section
variable {K : PySem.W.Frag} {H : Hp}
theorem dp_list {v : V} {ds : List PyData} (h : Dp K H v (.list ds)) : ∃ a xs, v = .ref a ∧ SqL K H a xs ∧ DpAll K H xs ds := by
  cases h with
  | lst h a => exact ⟨_, _, rfl, h, a⟩
theorem dp_tuple {v : V} {ds : List PyData} (h : Dp K H v (.tuple ds)) : ∃ a xs, v = .ref a ∧ SqT K H a xs ∧ DpAll K H xs ds := by
  cases h with
  | tup h a => exact ⟨_, _, rfl, h, a⟩
theorem dpAll_len : ∀ {xs : List V} {ds : List PyData}, DpAll K H xs ds → xs.length = ds.length
  | _, _, .nil => rfl
  | _, _, .cons _ t => by rw [List.length_cons, List.length_cons, dpAll_len t]
theorem dpAll_app : ∀ {xs ys : List V} {ds es : List PyData}, DpAll K H xs ds → DpAll K H ys es → DpAll K H (xs ++ ys) (ds ++ es)
  | _, _, _, _, .nil, b => b
  | _, _, _, _, .cons h t, b => .cons h (dpAll_app t b)
end
/-- a list or a tuple with these items -/
def Sq (K : PySem.W.Frag) (H : Hp) (v : V) (xs : List V) : Prop := ∃ a, v = .ref a ∧ (SqL K H a xs ∨ SqT K H a xs)
theorem Sq.same {K : PySem.W.Frag} {H H' : Hp} {v : V} {xs : List V} (h : Sq K H v xs) (s : Same H H') : Sq K H' v xs := by
  obtain ⟨a, e, h⟩ := h
  exact ⟨a, e, h.elim (fun h => .inl (sq_same h s)) fun h => .inr (sqT_same h s)⟩
/-- the iterator of a list or a tuple -/
def iSq (K : PySem.W.Frag) (tl : TE) : TI := fun σ H R => tl σ H fun x H1 => ∃ xs H0, Sq K H0 x xs ∧ Same H0 H1 ∧ ∀ J G, Walk J xs.length G (YAt xs) → (∀ H', Same H0 H' → G H') → R J H1
theorem pi_sq {X : Cx} {tg l : Expr} {tl : TE} (hl : PE X l tl) : PI X tg l (iSq X.K tl) := by
  refine ⟨fun pins s σ H R I h => ?_⟩
  refine thn (hl.run pins s σ H _ I h) fun v s1 ⟨x, H1, I1, r1, q1⟩ => ?_
  obtain ⟨xs, H0, ⟨a, e, hq⟩, sm, q⟩ := q1
  subst e
  cases r1
  have fresh : ∀ b, b ∈ [s1.heap.objs.size] → FpOk X pins H1 b := fun b hb => by
    have e : b = s1.heap.objs.size := by simpa using hb
    subst e
    exact I1.fpOk (Nat.le_refl _) (I1.hok.fresh (Nat.le_refl _))
  rcases hq with hq | hq
  · obtain ⟨its, rv, p, hz⟩ := I1.list (sq_same hq sm)
    refine wpAny_pyIter_list p.isList ?_
    exact ⟨s1.heap.objs.size, [s1.heap.objs.size], _, _, H1, rfl, I1.kept (t' := s1.toks) fun b o e => Heap.get?_push_of_some _ e, turn_list a _, ⟨_, Heap.get?_push_size _ rfl, rfl, rfl⟩, fresh, q _ _ walk_list fun H' s' => sq_same hq s'⟩
  · obtain ⟨its, rv, p, hz⟩ := I1.tuple (sqT_same hq sm)
    refine wpAny_pyIter_tuple p ?_
    exact ⟨s1.heap.objs.size, [s1.heap.objs.size], _, _, H1, rfl, I1.kept (t' := s1.toks) fun b o e => Heap.get?_push_of_some _ e, turn_tuple a _, ⟨_, Heap.get?_push_size _ rfl, rfl, rfl⟩, fresh, q _ _ walk_tup fun H' s' => sqT_same hq s'⟩
structure Wt (d : PyData) (w k : Nat) : Prop where
  s : d.showable = true
  l : d.leavesShort 10 = true
  c : d.canLay0 = true
  w : d.weight ≤ w
  p : d.depth ≤ k
theorem Wt.shaped {d : PyData} {w k : Nat} (h : Wt d w k) (hk : k ≤ 64) : SeqAt.shaped d = true := by
  show (d.canLay0 && decide (d.depth ≤ 64)) = true
  rw [h.c, decide_eq_true (Nat.le_trans h.p hk)]
  rfl
theorem Wt.mono {d : PyData} {w k w' k' : Nat} (h : Wt d w k) (hw : w ≤ w') (hk : k ≤ k') : Wt d w' k' := ⟨h.s, h.l, h.c, Nat.le_trans h.w hw, Nat.le_trans h.p hk⟩
theorem wt_all {w k : Nat} : ∀ {ds : List PyData}, (∀ d ∈ ds, Wt d w k) → PyData.showableAll ds = true ∧ PyData.leavesShortAll 10 ds = true ∧ PyData.canLayAll0 ds = true ∧ PyData.weightAll ds ≤ (w + 1) * ds.length ∧ PyData.depthAll ds ≤ k
  | [], _ => ⟨rfl, rfl, rfl, Nat.zero_le _, Nat.zero_le _⟩
  | d :: ds, h => by
    have h1 := h d List.mem_cons_self
    obtain ⟨a, b, c, e, f⟩ := wt_all (ds := ds) fun x hx => h x (List.mem_cons_of_mem _ hx)
    refine ⟨?_, ?_, ?_, ?_, ?_⟩
    · show (PyData.showable d && PyData.showableAll ds) = true
      rw [h1.s, a]; rfl
    · show (PyData.leavesShort 10 d && PyData.leavesShortAll 10 ds) = true
      rw [h1.l, b]; rfl
    · show (PyData.canLay0 d && PyData.canLayAll0 ds) = true
      rw [h1.c, c]; rfl
    · show PyData.weight d + 1 + PyData.weightAll ds ≤ _
      have := h1.w
      rw [List.length_cons, Nat.mul_succ]
      omega
    · show max (PyData.depth d) (PyData.depthAll ds) ≤ k
      exact Nat.max_le.mpr ⟨h1.p, f⟩
theorem Wt.list {w k n : Nat} {ds : List PyData} (h : ∀ d ∈ ds, Wt d w k) (hn : ds.length ≤ n) : Wt (.list ds) ((w + 1) * n) (k + 1) := by
  obtain ⟨a, b, c, e, f⟩ := wt_all h
  have hm : (w + 1) * ds.length ≤ (w + 1) * n := Nat.mul_le_mul_left _ hn
  exact ⟨by simpa only [PyData.showable] using a, by simpa only [PyData.leavesShort] using b, by simpa only [PyData.canLay0] using c, by simp only [PyData.weight]; omega, by simp only [PyData.depth]; omega⟩
theorem Wt.tuple {w k n : Nat} {ds : List PyData} (h : ∀ d ∈ ds, Wt d w k) (hn : ds.length ≤ n) : Wt (.tuple ds) ((w + 1) * n) (k + 1) := by
  obtain ⟨a, b, c, e, f⟩ := wt_all h
  have hm : (w + 1) * ds.length ≤ (w + 1) * n := Nat.mul_le_mul_left _ hn
  exact ⟨by simpa only [PyData.showable] using a, by simpa only [PyData.leavesShort] using b, by simpa only [PyData.canLay0] using c, by simp only [PyData.weight]; omega, by simp only [PyData.depth]; omega⟩
theorem Wt.non : Wt .none 0 0 := ⟨rfl, rfl, rfl, by simp [PyData.weight], by simp [PyData.depth]⟩
theorem Wt.bool (b : Bool) : Wt (.bool b) 0 0 := ⟨rfl, rfl, rfl, by simp [PyData.weight], by simp [PyData.depth]⟩
theorem Wt.int {n : Int} (h : n.natAbs < 1000000000) : Wt (.int n) 30 0 := by
  have hlog : n.natAbs.log2 < 30 := by
    by_cases e : n.natAbs = 0
    · rw [e]; decide
    · exact (Nat.log2_lt e).mpr (Nat.lt_trans h (by decide))
  refine ⟨?_, ?_, rfl, ?_, by simp [PyData.depth]⟩
  · simp only [PyData.showable, decide_eq_true_eq]; omega
  · simp only [PyData.leavesShort, decide_eq_true_eq]
    have e := int_text_length_le10 (a := n) (k := 9) (by decide) h
    simp only [PyData.shown]
    rw [PySem.ofString_length]
    omega
  · simp only [PyData.weight]; split <;> omega
theorem Wt.text {l : List Nat} {n : Nat} (h : ∀ c ∈ l, c < 1114112) (hn : l.length ≤ n) : Wt (.str (tS l)) n 0 := by
  refine ⟨rfl, ?_, ?_, by simpa [PyData.weight, tS] using hn, by simp [PyData.depth]⟩
  · simp only [PyData.leavesShort, List.all_eq_true, decide_eq_true_eq]
    intro c hc
    have := h c (by simpa [tS] using hc)
    have e : 16 ^ 8 = 4294967296 := by decide
    omega
  · show PyData.strOk (tS l) = true
    unfold PyData.strOk
    rw [Array.all_eq_true_iff_forall_mem]
    intro c hc
    exact decide_eq_true (h c (by simpa [tS] using hc))
theorem eqv_map {α : Type} [DecidableEq α] (f : α → PyData) (hf : ∀ a b, PyData.eqv (f a) (f b) = decide (a = b)) : ∀ l m : List α, PyData.eqvAll (l.map f) (m.map f) = decide (l = m)
  | [], [] => by simp [PyData.eqvAll]
  | [], b :: m => by simp [PyData.eqvAll]
  | a :: l, [] => by simp [PyData.eqvAll]
  | a :: l, b :: m => by
    show (PyData.eqv (f a) (f b) && PyData.eqvAll (l.map f) (m.map f)) = _
    rw [hf, eqv_map f hf l m]
    by_cases h1 : a = b
    · by_cases h2 : l = m
      · subst h1 h2; simp
      · simp [h2]
    · simp [h1]
end L3
namespace L3
open PySem PySem.Spec PyProof.Rows L2
end L3
namespace L3
open PySem PySem.Spec PyProof.Rows L2
/-- without what stands at D -/
def del (H : Hp) (D : Addr) : Hp := fun b => if b = D then none else H b
theorem del_upd (H : Hp) (D : Addr) (o : HO) : del (upd H D o) D = del H D := by
  funext b; unfold del upd
  by_cases h : b = D
  · rw [if_pos h, if_pos h]
  · rw [if_neg h, if_neg h, if_neg h]
theorem del_none {H : Hp} {D : Addr} (h : H D = none) : del H D = H := by
  funext b; unfold del
  by_cases e : b = D
  · rw [if_pos e, e, h]
  · rw [if_neg e]
theorem del_ne {H : Hp} {D b : Addr} (h : b ≠ D) : del H D b = H b := by unfold del; rw [if_neg h]
theorem del_same (H : Hp) (D : Addr) : Same (del H D) H := fun b o e => by
  unfold del at e
  by_cases h : b = D
  · rw [if_pos h] at e; cases e
  · rw [if_neg h] at e; exact e
theorem del_mono {H H' : Hp} (D : Addr) (s : Same H H') : Same (del H D) (del H' D) := fun b o e => by
  unfold del at e ⊢
  by_cases h : b = D
  · rw [if_pos h] at e; cases e
  · rw [if_neg h] at e ⊢; exact s b o e
theorem del_at (H : Hp) (D : Addr) : del H D D = none := by unfold del; rw [if_pos rfl]
/-- a comprehension: Pv of the list so far and the heap without it -/
theorem lc_dp {J : It} {n : Nat} {G : Hp → Prop} {Y : Nat → Hp → V → Hp → Prop} (w : Walk J n G Y) {g : TG} {tt : TT} {te : TE} {vs : List Nat} {σ : L2.St} {H1 : Hp} {D : Addr} {Qd : Hp → Prop} (Pv : Nat → List V → Hp → Prop) (hz : n ≤ sizeLine) (hA : ∀ i acc H, Pv i acc H → acc.length ≤ i)
    (nD : H1 D = none) (h0 : Pv 0 [] H1) (hG : ∀ i acc H, Pv i acc (del H D) → H D = some (.lst acc) → G H)
    (hs : ∀ i x H H' acc (C : VK) (N : Hp → Prop), i < n → Pv i acc (del H D) → H D = some (.lst acc) → Y i H x H' → (∀ v H4, H4 D = some (.lst acc) → Pv (i + 1) (acc ++ [v]) (del H4 D) → C v H4) → (∀ H3, H3 D = some (.lst acc) → Pv (i + 1) acc (del H3 D) → N H3) →
      g x (wipe σ vs) H' fun σ2 H2 => wipe σ2 vs = wipe σ vs ∧ tt σ2 H2 fun b H3 => if b = true then te σ2 H3 C else N H3)
    (hd : ∀ H xs, H D = some (.lst xs) → Pv n xs (del H D) → Qd H) :
    ∃ W : Nat → Nat → Hp → Prop, (∃ m, W 0 m (upd H1 D (.lst []))) ∧ ∀ i m H, W i m H →
      (J.stop i H ∧ Qd H) ∨ (J.go i H ∧ ∃ Nx : Hp → Prop, (∀ H', Nx H' → ∃ m', m' < m ∧ W (i + 1) m' H') ∧ ∀ x H', J.yld i H x H' → g x (wipe σ vs) H' fun σ2 H2 => wipe σ2 vs = wipe σ vs ∧ tt σ2 H2 fun b H3 =>
        if b = true then te σ2 H3 fun y H4 => ∃ acc, H4 D = some (.lst acc) ∧ acc.length < sizeLine ∧ Nx (upd H4 D (.lst (acc ++ [y]))) else Nx H3) := by
  refine lc_it w (fun i H => ∃ acc, H D = some (.lst acc) ∧ Pv i acc (del H D)) ⟨[], upd_same, by rw [del_upd, del_none nD]; exact h0⟩ (fun i H _ p => by obtain ⟨acc, h1, h2⟩ := p; exact hG i acc H h2 h1) (fun i x H H' hi p y => ?_) fun H p => ?_
  · obtain ⟨acc, hD, ha⟩ := p
    refine hs i x H H' acc _ _ hi ha hD y (fun v H4 d4 a4 => ⟨acc, d4, ?_, _, upd_same, by rw [del_upd]; exact a4⟩) (fun H3 d3 a3 => ⟨acc, d3, a3⟩)
    have := hA i acc _ ha
    omega
  · obtain ⟨acc, hD, ha⟩ := p
    exact hd H acc hD ha
theorem gName_mono {i : Nat} : ∀ x σ H (Q Q' : L2.St → Hp → Prop), (∀ σ2 H2, Q σ2 H2 → Q' σ2 H2) → gName i x σ H Q → gName i x σ H Q' := fun _ _ _ _ _ h q => h _ _ q
end L3
namespace L3
open PySem PySem.Spec PyProof.Rows L2
end L3
namespace L3
open PySem PySem.Spec PyProof.Rows L2
end L3
namespace L3
open PySem PySem.Spec PyProof.Rows L2
end L3
namespace L3
open PySem PySem.Spec PyProof.Rows L2 Builtin Builtin.ObjectAttr
end L3
namespace L3
open PySem PySem.Spec PyProof.Rows L2
end L3
namespace L3
open PySem PySem.Spec PyProof.Rows L2
open MeetsSeq MeetsSeq2 MeetsSeq3 SeqRoads2
open AutoSeq1 (wpAny_loadPart')
/-- x == y answers b, and nothing changes -/
def EqStep (X : Cx) (H : Hp) (x y : V) (b : Bool) : Prop := ∀ (pins : List (Addr × Obj)) (s : Shared) (σ : L2.St) (H' : Hp) (u v : Value) (Q : Bool → Shared → Prop) (E' : Value → Shared → Prop), L2.Inv X pins σ H' s → Same H H' → RelV x u → RelV y v →
  (∀ H'' s', L2.Inv X pins σ H'' s' → Same H' H'' → Q b s') → wpAny (model X.prog X.w) X.A.in1 (eqBool u v) Q E' s
section
variable {X : Cx} {C f : Addr} {fd : FuncData} {k : Nat} {sp : Sp} {y : Str}
theorem EqStep.own {H : Hp} {a b : Addr} {z : Bool} (F : FnOkG X.prog X.w X.K X.mg X.base CX0 k f fd ["self", y] sp) (hr : Room (k + 1) X.A) (hG : X.A.guards = some []) (hb : L2.Binds X.K fd ["self", y] []) (m : Meth X.K C "__eq__" f) (hne : a ≠ b)
    (hn : PySem.W.notFirst X.K C (.ref C) = true) (h : ∀ H', Same H H' → (∃ dx fs, H' a = some (.ins C dx fs)) ∧ (∃ dx fs, H' b = some (.ins C dx fs)) ∧ sp [.ref a, .ref b] H' (fun v H'' => v = .bl z ∧ Same H' H'') E0) : EqStep X H (.ref a) (.ref b) z := by
  intro pins s σ H' u v Q E' I sm r1 r2 hQ
  cases r1
  cases r2
  obtain ⟨⟨dx, fs, ha⟩, ⟨dy, gs, hb'⟩, h⟩ := h H' sm
  obtain ⟨mA, O, _⟩ := ins_get I.hok ha
  obtain ⟨od, J, _⟩ := O.look
  obtain ⟨mB, O2, _⟩ := ins_get I.hok hb'
  obtain ⟨od2, J2, _⟩ := O2.look
  obtain ⟨mm, FF⟩ := I.fr
  unfold eqBool
  refine wpAny_holding ?_
  refine wpAny_ite_split (fun hab => absurd (by have := eq_of_beq hab; injection this) hne) (fun _ => ?_)
  refine wpAny_bind ?_
  have hu := hr.units
  refine PySem.W.cmp_K (op := .Eq) (by show X.A.units + 1 < cLine; omega) FF I.ok.mod.kin J J2.type hn m.at_ m.fn ?_
  refine run_own (vs := [.ref a, .ref b]) (us := [.ref a, .ref b]) F hr hG hb I (.cons rfl (.cons rfl .nil)) h fun w s' hq => ?_
  obtain ⟨v, H2, I2, rv, rfl, sm2⟩ := hq
  cases rv
  exact (show wpAny _ _ (truthy (.bool z)) _ _ _ from wpAny_truthy_bool (hQ H2 s' I2 sm2))
end
end L3
namespace L3
open PySem PySem.Spec PyProof.Rows L2
/-- each list whose repr is under way holds an own object -/
def GOk (H : Hp) (g : List Code) : Prop := ∀ id v rest kw, Code.builtin id ⟨v :: rest, kw⟩ ∈ g → ∃ (l m C dx : Addr) (xs : List V) (fs : List (Str × V)), v = .ref l ∧ H l = some (.lst xs) ∧ V.ref m ∈ xs ∧ H m = some (.ins C dx fs)
theorem GOk.nil (H : Hp) : GOk H [] := fun _ _ _ _ h => nomatch h
theorem GOk.same {H H' : Hp} {g : List Code} (h : GOk H g) (s : Same H H') : GOk H' g := fun id v rest kw hm => by
  obtain ⟨l, m, C, dx, xs, fs, h1, h2, h3, h4⟩ := h id v rest kw hm
  exact ⟨l, m, C, dx, xs, fs, h1, s _ _ h2, h3, s _ _ h4⟩
theorem GOk.cons {H : Hp} {g : List Code} {id : String} {rest : List Value} {kw : List (Str × Value)} {l m C dx : Addr} {xs : List V} {fs : List (Str × V)} (h : GOk H g) (h2 : H l = some (.lst xs)) (h3 : V.ref m ∈ xs) (h4 : H m = some (.ins C dx fs)) : GOk H (.builtin id ⟨.ref l :: rest, kw⟩ :: g) := fun id' v' rest' kw' hm => by
  rcases List.mem_cons.mp hm with e | hm
  · cases e
    exact ⟨l, m, C, dx, xs, fs, rfl, h2, h3, h4⟩
  · exact h _ _ _ _ hm
theorem reads_mem {h : Heap} : ∀ {vs : List Value} {ds : List PyData} {as : List Addr}, ReadsAll h vs ds as → ∀ v ∈ vs, ∃ d as', Reads h v d as'
  | _, _, _, .nil, v, hv => nomatch hv
  | _, _, _, .cons r rs, v, hv => by
    rcases List.mem_cons.mp hv with rfl | hv
    · exact ⟨_, _, r⟩
    · exact reads_mem rs v hv
theorem vals_mem : ∀ {xs : List V} {us : List Value}, Vals xs us → ∀ {m : Addr}, V.ref m ∈ xs → Value.ref m ∈ us
  | _, _, .nil, m, h => nomatch h
  | _, _, .cons r t, m, h => by
    rcases List.mem_cons.mp h with e | h
    · subst e
      cases r
      exact List.mem_cons_self
    · exact List.mem_cons_of_mem _ (vals_mem t h)
section
variable {X : Cx} {pins : List (Addr × Obj)} {σ : L2.St} {H : Hp} {s : Shared} {g : List Code}
/-- what can be read as data is none of these lists -/
theorem gok_clear (I : L2.Inv X pins σ H s) (hg : GOk H g) {b : Addr} {d : PyData} {as : List Addr} (r : Reads s.heap (.ref b) d as) : Clear g b := fun id v rest kw hm z => by
  obtain ⟨l, m, C, dx, xs, fs, h1, h2, h3, h4⟩ := hg id v rest kw hm
  rw [h1] at z
  obtain rfl := Value.ref.inj z
  obtain ⟨_, its, n, rv, hl⟩ := I.hok _ _ h2
  obtain ⟨mA, O, _⟩ := ins_get I.hok h4
  have hm' := vals_mem rv h3
  have hmo : s.heap.get? m = some (PySem.W.instObj C dx) := by
    obtain ⟨_, _, _, q, _⟩ := I.hok _ _ h4
    exact q
  cases r with
  | list q1 q2 q3 q4 =>
    rw [hl] at q1
    cases q1
    have e3 : Data.seq its.toArray n = Data.seq _ _ := q3
    cases e3
    obtain ⟨d', as', r'⟩ := reads_mem q4 (.ref m) (by simpa using hm')
    cases r' with
    | list w1 w2 _ _ => rw [hmo] at w1; cases w1; cases w2
    | tuple w1 w2 _ _ => rw [hmo] at w1; cases w1; cases w2
    | dict w1 w2 _ _ _ => rw [hmo] at w1; cases w1; cases w2
  | tuple q1 q2 q3 q4 => rw [hl] at q1; cases q1; exact absurd (Value.type.inj q2) (by decide)
  | dict q1 q2 q3 q4 q5 => rw [hl] at q1; cases q1; exact absurd (Value.type.inj q2) (by decide)
end
/-- an around that stands under X.A, with the guards g -/
structure AIn (X : Cx) (k : Nat) (g : List Code) (A : Around) : Prop where
  room : Room k A
  gd : A.guards = some g
  env : ∀ {pins : List (Addr × Obj)} {σ : L2.St} {H : Hp} {s : Shared}, L2.Inv X pins σ H s → Env0 X.prog X.w X.K X.mg X.base A X.stack s H
theorem AIn.base {X : Cx} {k : Nat} {g : List Code} (hr : Room k X.A) (hg : X.A.guards = some g) : AIn X k g X.A := ⟨hr, hg, fun I => I.env0⟩
theorem AIn.in1 {X : Cx} {k : Nat} {g : List Code} {A : Around} (h : AIn X (k + 1) g A) : AIn X k g A.in1 := ⟨h.room.in1, h.gd, fun I => (h.env I).in1⟩
theorem AIn.mono {X : Cx} {j k : Nat} {g : List Code} {A : Around} (h : AIn X k g A) (hj : j ≤ k) : AIn X j g A := ⟨h.room.mono hj, h.gd, h.env⟩
/-- repr(x) is t, and nothing changes -/
def ReprStep (X : Cx) (k : Nat) (H : Hp) (x : V) (t : Str) : Prop := ∀ (base : Nat) (A : Around) (g : List Code) (pins : List (Addr × Obj)) (s : Shared) (σ : L2.St) (H' : Hp) (u : Value) (Q : Str → Shared → Prop) (E' : Value → Shared → Prop), base + t.length ≤ sizeLine → AIn X k g A → GOk H' g → L2.Inv X pins σ H' s → Same H H' → RelV x u →
  (∀ H'' s', L2.Inv X pins σ H'' s' → Same H' H'' → Q t s') → wpAny (model X.prog X.w) A (pyReprUnder base u) Q E' s
section
variable {X : Cx} {k : Nat} {H : Hp}
theorem ReprStep.data {x : V} {d : PyData} (hd : Dp X.K H x d) (hs : d.showable = true) (hz : d.shown.length ≤ sizeLine) (hp : d.depth ≤ 50) : ReprStep X k H x d.shown := by
  intro base A g pins s σ H' u Q E' hb hA hg I sm rx hQ
  have hd' := Dp.same sm hd
  obtain ⟨as, r⟩ := Dp.reads I d x u hd' rx
  obtain ⟨bs, hbs, hk⟩ := ReprK.of_reads (prog := X.prog) (w := X.w) r hs (PyData.noDict_hsm (dp_noDict (K := X.K) (H := H') hd')) hz
  have hu := hA.room.units
  refine hk base hb A g E' s Q hA.gd (fun b hbm => ?_) (by omega) (fun _ _ e => e) fun h' tk kk => hQ H' _ (I.kept kk) (Same.refl _)
  obtain ⟨d', as', r', _⟩ := hbs b hbm
  exact gok_clear I hg r'
end
/-- a def that is called while reprs are under way -/
structure FnOkH (P : Program) (w : World) (K : PySem.W.Frag) (mg : Str → Option Value) (base : Heap) (CX : CXT) (k : Nat) (f : Addr) (fd : FuncData) (ps : List Str) (sp : Sp) : Prop where
  len : ∀ vs H Q E, sp vs H Q E → vs.length = ps.length
  run : ∀ (A : Around) (outer : List Env) (s : Shared) (H : Hp) (args : Args) (us : List Value) (vs : List V) (Q : VK) (E : XK) (g : List Code), Room k A → A.guards = some g → GOk H g → Env0 P w K mg base A outer s H → BindsTo s fd args (ps.zip us) → Vals vs us → sp vs H Q E →
    codeAny (model P w) A (.call (.ref f) args) (CR CX outer P w H s Q E) s
theorem FnOkH.toG {P : Program} {w : World} {K : PySem.W.Frag} {mg : Str → Option Value} {base : Heap} {CX : CXT} {k : Nat} {f : Addr} {fd : FuncData} {ps : List Str} {sp : Sp} (F : FnOkH P w K mg base CX k f fd ps sp) : FnOkG P w K mg base CX k f fd ps sp :=
  ⟨F.len, fun A outer s H args us vs Q E hr hg => F.run A outer s H args us vs Q E [] hr hg (GOk.nil H)⟩
section
variable {X : Cx} {C f : Addr} {fd : FuncData} {k : Nat} {sp : Sp} {H : Hp}
theorem ReprStep.own {a : Addr} {t : Str} (F : FnOkH X.prog X.w X.K X.mg X.base CX0 k f fd ["self"] sp) (hb : L2.Binds X.K fd ["self"] []) (m : Meth X.K C "__repr__" f)
    (h : ∀ H', Same H H' → (∃ dx fs, H' a = some (.ins C dx fs)) ∧ sp [.ref a] H' (fun v H'' => v = .str t ∧ Same H' H'') E0) (hz : t.length ≤ sizeLine) : ReprStep X k H (.ref a) t := by
  intro base A g pins s σ H' u Q E' hbs hA hg I sm rx hQ
  cases rx
  obtain ⟨⟨dx, fs, ha⟩, h⟩ := h H' sm
  obtain ⟨mA, O, _⟩ := ins_get I.hok ha
  obtain ⟨od, J, _⟩ := O.look
  have X1 := I.kIn
  have hu := hA.room.units
  have hrun : wpAny (model X.prog X.w) A (call (.ref f) [.ref a]) (fun v s' => ∃ H'' tk, v = .str t tk ∧ L2.Inv X pins σ H'' s' ∧ Same H' H'') E' s := by
    have hl : ([Value.ref a] ++ []).length = ["self"].length := rfl
    have hb' : BindsTo s fd ⟨[.ref a], []⟩ ([("self" : Str)].zip [Value.ref a]) := hb s [.ref a] I.kIn rfl
    refine wpAny_call (codeAny_mono (F.run A X.stack s H' ⟨[.ref a], []⟩ [.ref a] [.ref a] _ E0 g hA.room hA.gd hg (hA.env I) hb' (.cons rfl .nil) h) fun r s' hq => ?_)
    cases r with
    | error e => exact (show False from hq).elim
    | ok fl =>
      cases fl with
      | ret w =>
        obtain ⟨v, H2, I2, rv, rfl, sm2⟩ := I.after hq
        obtain ⟨tk, rfl⟩ := rv
        exact ⟨H2, tk, rfl, I2, sm2⟩
      | next => exact False.elim hq
      | brk => exact False.elim hq
      | cont => exact False.elim hq
  refine wpAny_pyReprUnder_ref (by omega) ?_
  unfold pyReprObjUnder pyReprObjBy
  refine wpAny_bind (wpAny_cRoomFor (by omega) ?_)
  refine wpAny_bind (wpAny_bind (J.type.here ((PySem.W.looks_findIn X1 m.at_).here ?_)))
  show wpAny _ _ (if (some (Value.ref f)).isNone = true then _ else _) _ _ _
  rw [if_neg (by simp)]
  refine wpAny_bind ?_
  simp only [callSpecialIfBoundBy?, bindSpecialIfBound?]
  refine wpAny_holding (wpAny_bind (wpAny_bind (wpAny_bind (J.type.here ((PySem.W.looks_findIn X1 m.at_).here ?_)))))
  refine wpAny_bind (wpAny_askSetting (wpAny_ite ?_))
  have last : ∀ (Q' : Option Value → Shared → Prop), (∀ H'' s' tk, L2.Inv X pins σ H'' s' → Same H' H'' → Q' (some (.str t tk)) s') → wpAny (model X.prog X.w) A ((match reprUnder? (.ref f), [Value.ref a] with | some twin, [self] => call twin [self, rawInt base] | _, _ => call (.ref f) ([Value.ref a] ++ [])) >>= fun v => pure (some v)) Q' E' s := fun Q' hQ' => by
    refine wpAny_bind (wpAny_mono hrun (fun v s' hv => ?_) fun _ _ e => e)
    obtain ⟨H'', tk, rfl, I2, sm2⟩ := hv
    exact wpAny_pure (hQ' H'' s' tk I2 sm2)
  have fin : ∀ H'' s' tk, L2.Inv X pins σ H'' s' → Same H' H'' → wpAny (model X.prog X.w) A (do if ← isInstance (.str t tk) (.type "str") then pure (Value.str t tk) else raiseError "TypeError" s!"__repr__ returned non-string (type {← typeNameOf (.str t tk)})") (fun v s'' => ∃ x u, v = .str x u ∧ Q x s'') E' s' := fun H'' s' tk I2 sm2 => by
    refine wpAny_bind (wpAny_isInstance (typeIs_str _ _ _) isSubtype_str_str ?_)
    rw [if_pos rfl]
    exact wpAny_pure ⟨t, tk, rfl, hQ H'' s' I2 sm2⟩
  split
  · exact wpAny_bind ((PySem.W.bind_fn X1 _ (beq_iff_eq.mp m.fn)).here (wpAny_pure (last _ fun H'' s' tk I2 sm2 => fin H'' s' tk I2 sm2)))
  · exact wpAny_tryCatch (wpAny_bind ((PySem.W.bind_fn X1 _ (beq_iff_eq.mp m.fn)).here (wpAny_pure (last _ fun H'' s' tk I2 sm2 => fin H'' s' tk I2 sm2))))
end
end L3
namespace L3
open PySem PySem.Spec PyProof.Rows L2
open Builtin Builtin.List
/-- a record of ours that may change -/
structure Mine (X : Cx) (pins : List (Addr × Obj)) (P : Addr) : Prop where
  new : X.s_0.heap.objs.size ≤ P
  cell : ∀ x c, X.env.cells.lookup x = some c → c ≠ P
  pin : ∀ p ∈ X.pn ++ pins, p.1 ≠ P
section
variable {X : Cx} {pins : List (Addr × Obj)} {σ : L2.St} {H : Hp} {s : Shared} {P : Addr}
theorem Mine.of (I : L2.Inv X pins σ H s) (hP : s.heap.objs.size ≤ P) : Mine X pins P := by
  refine ⟨Nat.le_trans I.sz hP, fun x c e z => ?_, fun p hp z => ?_⟩
  · obtain ⟨v, o, hv, _⟩ := I.cell x c e
    rw [z] at hv
    exact absurd (Heap.lt_size hv) (Nat.not_lt.mpr hP)
  · obtain ⟨q, _⟩ := I.pin p hp
    rw [z] at q
    exact absurd (Heap.lt_size q) (Nat.not_lt.mpr hP)
end
end L3
namespace L3
open PySem PySem.Spec PyProof.Rows L2
def keyD : Key → PyData
  | .inl i => .int i
  | .inr x => .str x
theorem keyD_noDict : ∀ ks : List Key, PyData.hasDictAll (ks.map keyD) = false
  | [] => by simp only [List.map_nil, PyData.hasDictAll]
  | .inl i :: ks => by
    have := keyD_noDict ks
    simp only [List.map_cons, PyData.hasDictAll, keyD, PyData.hasDict, this, Bool.or_self]
  | .inr i :: ks => by
    have := keyD_noDict ks
    simp only [List.map_cons, PyData.hasDictAll, keyD, PyData.hasDict, this, Bool.or_self]
section
variable {P : Program} {w : World} {h : Heap}
/-- what the entries of a dict hold -/
theorem ent_of : ∀ {es : List DictEntry} {kvs : List (Key × V)} {vs : List (Key × Value)}, KV kvs vs → Pairs (mixKind P w) es vs → (∃ as, ReadsAll h (es.map (·.key)) (kvs.map fun kv => keyD kv.1) as) ∧ Vals (kvs.map (·.2)) (es.map (·.val))
  | _, _, _, .nil, .nil => ⟨⟨_, .nil⟩, .nil⟩
  | e :: es, kv :: kvs, v :: vs, .cons ⟨h1, h2⟩ r, .cons k1 k2 p => by
    obtain ⟨⟨as, ra⟩, rv⟩ := ent_of r p
    refine ⟨?_, .cons (by show RelV kv.2 e.val; rw [k2]; exact h2) rv⟩
    have k1 : keyIs v.1 e.key = true := k1
    rcases keyIs_shape k1 with ⟨i, t, e1, e2⟩ | ⟨x, t, e1, e2⟩
    · refine ⟨[] ++ as, .cons ?_ ra⟩
      show Reads h e.key (keyD kv.1) []
      rw [e2, h1, e1]
      exact .int i t
    · refine ⟨[] ++ as, .cons ?_ ra⟩
      show Reads h e.key (keyD kv.1) []
      rw [e2, h1, e1]
      exact .str x t
end
theorem zip_fstD {α β : Type} : ∀ {a : List α} {b : List β}, a.length = b.length → (a.zip b).map (·.1) = a
  | [], [], _ => rfl
  | x :: a, y :: b, h => by rw [List.zip_cons_cons, List.map_cons, zip_fstD (Nat.succ.inj h)]
theorem zip_sndD {α β : Type} : ∀ {a : List α} {b : List β}, a.length = b.length → (a.zip b).map (·.2) = b
  | [], [], _ => rfl
  | x :: a, y :: b, h => by rw [List.zip_cons_cons, List.map_cons, zip_sndD (Nat.succ.inj h)]
/-- the data of a dict -/
def dDict (kvs : List (Key × V)) (ds : List PyData) : PyData := .dict ((kvs.map fun kv => keyD kv.1).zip ds)
section
variable {X : Cx} {k : Nat} {H : Hp}
theorem ReprStep.dct {a : Addr} {kvs : List (Key × V)} {ds : List PyData} (ha : H a = some (.dK kvs)) (hv : DpAll X.K H (kvs.map (·.2)) ds) (hs : (dDict kvs ds).showable = true) (hz : (dDict kvs ds).shown.length ≤ sizeLine) (hp : (dDict kvs ds).depth ≤ 50) : ReprStep X k H (.ref a) (dDict kvs ds).shown := by
  intro base A g pins s σ H' u Q E' hb hA hg I sm rx hQ
  cases rx
  have ha' := sm _ _ ha
  have hv' := DpAll.same sm hv
  have hu := hA.room.units
  obtain ⟨z, hsys, vs, rel, o, es, ep, ho, hex, hd, hkeys, hpairs, hnd⟩ := dk_of I.hok ha'
  obtain ⟨⟨as, ra⟩, rv⟩ := ent_of (h := s.heap) rel hpairs
  obtain ⟨bs, rb⟩ := Dp.readsAll I ds _ _ hv' rv
  have hlen : (kvs.map fun kv => keyD kv.1).length = ds.length := by rw [← dpAll_len hv', List.length_map, List.length_map]
  unfold dDict at hs hz hp hQ hb
  have e1 := zip_fstD hlen
  have e2 := zip_sndD hlen
  have nk := keyD_noDict (kvs.map (·.1))
  rw [List.map_map] at nk
  have nk : PyData.hasDictAll (kvs.map fun kv => keyD kv.1) = false := nk
  have nv : PyData.hasDictAll ds = false := dpAll_noDict hv'
  generalize (kvs.map fun kv => keyD kv.1).zip ds = kd at *
  rw [← e1] at ra nk
  rw [← e2] at rb nv
  have hz' : (dictText (PyData.shownKv kd)).length ≤ sizeLine := by simpa only [PyData.shown] using hz
  obtain ⟨hs1, hs2⟩ := PyData.showableKv_split kd (by simpa [PyData.showable] using hs)
  obtain ⟨b1, hb1, k1⟩ := ReprAllK.of_readsAll (prog := X.prog) (w := X.w) ra hs1 (fun q => by rw [nk] at q; cases q) (fun t ht => let ⟨p, hp, hl⟩ := PyData.shownKv_key_le kd t ht; Nat.le_trans hl (Nat.le_trans (dictText_mem_le hp) hz'))
  obtain ⟨b2, hb2, k2⟩ := ReprAllK.of_readsAll (prog := X.prog) (w := X.w) rb hs2 (fun q => by rw [nv] at q; cases q) (fun t ht => let ⟨p, hp, hl⟩ := PyData.shownKv_val_le kd t ht; Nat.le_trans hl (Nat.le_trans (dictText_mem_le hp) hz'))
  have hcls : o.cls = .type "dict" := hex.1
  have r : Reads s.heap (.ref a) (.dict kd) _ := .dict ho hcls hd ra rb
  have hbm : ReadAtMost s.heap (PyData.depthKv kd) (b1 ++ b2) := (hb1.mono (PyData.depthAll_keys_le kd)).append (hb2.mono (PyData.depthAll_vals_le kd))
  have hna : a ∉ b1 ++ b2 := not_mem_of_deeper r (by simp only [PyData.depth]; omega) hbm
  have hk : ReprK X.prog X.w (a :: (b1 ++ b2)) s.heap (PyData.depthKv kd + 1) (.ref a) (dictText (List.zipWith (fun k v : Str => k ++ ": " ++ v) (PyData.shownAll (kd.map (·.1))) (PyData.shownAll (kd.map (·.2))))) := ReprK.dict ho hcls hd hsys hna (ReprEntriesK.of_two es.toList _ _
    (k1.more_le (fun b hb => List.mem_append_left _ hb) (PyData.depthAll_keys_le kd)) (k2.more_le (fun b hb => List.mem_append_right _ hb) (PyData.depthAll_vals_le kd)))
  have hsh : (PyData.dict kd).shown = dictText (List.zipWith (fun k v : Str => k ++ ": " ++ v) (PyData.shownAll (kd.map (·.1))) (PyData.shownAll (kd.map (·.2)))) := by simp only [PyData.shown, PyData.shownKv_eq]
  have hdp : (PyData.dict kd).depth = PyData.depthKv kd + 1 := by simp only [PyData.depth]
  rw [hsh] at hb hQ
  rw [hdp] at hp
  refine hk base hb A g E' s Q hA.gd (fun b hbm' => ?_) (by omega) (fun _ _ e => e) fun h' tk kk => hQ H' _ (I.kept kk) (Same.refl _)
  rcases List.mem_cons.mp hbm' with rfl | hbm'
  · exact gok_clear I hg r
  · obtain ⟨d', as', r', _⟩ := hbm b hbm'
    exact gok_clear I hg r'
end
end L3
namespace L3
open PySem PySem.Spec PyProof.Rows L2
mutual
inductive DpD (K : PySem.W.Frag) (H : Hp) : V → PyData → Prop
  | data {v : V} {d : PyData} : Dp K H v d → DpD K H v d
  | lst {a : Addr} {xs : List V} {ds : List PyData} : SqL K H a xs → DpDs K H xs ds → DpD K H (.ref a) (.list ds)
  | tup {a : Addr} {xs : List V} {ds : List PyData} : SqT K H a xs → DpDs K H xs ds → DpD K H (.ref a) (.tuple ds)
  | dct {a : Addr} {kvs : List (Key × V)} {ds : List PyData} {kd : List (PyData × PyData)} : H a = some (.dK kvs) → DpDs K H (kvs.map (·.2)) ds → kd = (kvs.map fun kv => keyD kv.1).zip ds → DpD K H (.ref a) (.dict kd)
inductive DpDs (K : PySem.W.Frag) (H : Hp) : List V → List PyData → Prop
  | nil : DpDs K H [] []
  | cons {v : V} {vs : List V} {d : PyData} {ds : List PyData} : DpD K H v d → DpDs K H vs ds → DpDs K H (v :: vs) (d :: ds)
end
theorem DpDs.len {K : PySem.W.Frag} {H : Hp} : ∀ {vs : List V} {ds : List PyData}, DpDs K H vs ds → vs.length = ds.length
  | _, _, .nil => rfl
  | _, _, .cons _ t => congrArg (· + 1) t.len
/-- what stands at an address of data so deep at most -/
def Rk (P : Program) (w : World) (h : Heap) (d : PyData) (u : Value) : Prop := (∃ as, Reads h u d as) ∧ (d.showable = true → d.shown.length ≤ sizeLine → ∃ bs, ReadAtMost h d.depth bs ∧ ReprK P w bs h d.depth u d.shown)
def Rks (P : Program) (w : World) (h : Heap) (ds : List PyData) (us : List Value) : Prop := (∃ as, ReadsAll h us ds as) ∧ (PyData.showableAll ds = true → (∀ t ∈ PyData.shownAll ds, t.length ≤ sizeLine) → ∃ bs, ReadAtMost h (PyData.depthAll ds) bs ∧ ReprAllK P w bs h (PyData.depthAll ds) us (PyData.shownAll ds))
section
variable {X : Cx} {pins : List (Addr × Obj)} {σ : L2.St} {H : Hp} {s : Shared}
theorem rk_list {a : Addr} {o : Obj} {us : List Value} {n : Nat} {ds : List PyData} (e1 : s.heap.get? a = some o) (e2 : o.cls = .type "list") (e3 : o.data = .seq us.toArray n) (R : Rks X.prog X.w s.heap ds us) : Rk X.prog X.w s.heap (.list ds) (.ref a) := by
  obtain ⟨⟨as, ra⟩, ks⟩ := R
  have r : Reads s.heap (.ref a) (.list ds) (a :: as) := .list e1 e2 e3 (by simpa using ra)
  refine ⟨⟨_, r⟩, fun sh sz => ?_⟩
  have sz' : (listText (PyData.shownAll ds)).length ≤ sizeLine := by simpa only [PyData.shown] using sz
  obtain ⟨bs, m, k⟩ := ks (by simpa [PyData.showable] using sh) fun t ht => Nat.le_trans (listText_mem_le ht) sz'
  refine ⟨a :: bs, .cons r (by simp only [PyData.depth]; omega) m, ?_⟩
  have out : a ∉ bs := not_mem_of_deeper r (by simp only [PyData.depth]; omega) m
  simp only [PyData.shown, PyData.depth]
  cases us with
  | nil =>
    cases ra
    simp only [listText_nil, PyData.shownAll]
    exact ReprK.listEmpty e1 e2 e3
  | cons x l => exact ReprK.list e1 e2 e3 out (by simpa using k.length_eq) fun i y e => k.item i y (by simpa using e)
theorem rk_tuple {a : Addr} {o : Obj} {us : List Value} {n : Nat} {ds : List PyData} (e1 : s.heap.get? a = some o) (e2 : o.cls = .type "tuple") (e3 : o.data = .seq us.toArray n) (R : Rks X.prog X.w s.heap ds us) : Rk X.prog X.w s.heap (.tuple ds) (.ref a) := by
  obtain ⟨⟨as, ra⟩, ks⟩ := R
  have r : Reads s.heap (.ref a) (.tuple ds) as := .tuple e1 e2 e3 (by simpa using ra)
  refine ⟨⟨_, r⟩, fun sh sz => ?_⟩
  have sz' : (tupleText (PyData.shownAll ds)).length ≤ sizeLine := by simpa only [PyData.shown] using sz
  obtain ⟨bs, m, k⟩ := ks (by simpa [PyData.showable] using sh) fun t ht => Nat.le_trans (tupleText_mem_le ht) sz'
  refine ⟨a :: bs, .cons r (by simp only [PyData.depth]; omega) m, ?_⟩
  have out : a ∉ bs := not_mem_of_deeper r (by simp only [PyData.depth]; omega) m
  simp only [PyData.shown, PyData.depth]
  exact ReprK.tuple e1 e2 e3 out (by simpa using k)
theorem rk_dict {a : Addr} {kvs : List (Key × V)} {ds : List PyData} {kd : List (PyData × PyData)} (I : L2.Inv X pins σ H s) (ha : H a = some (.dK kvs)) (hl : kvs.length = ds.length) (hk : kd = (kvs.map fun kv => keyD kv.1).zip ds) (R : ∀ us, Vals (kvs.map (·.2)) us → Rks X.prog X.w s.heap ds us) : Rk X.prog X.w s.heap (.dict kd) (.ref a) := by
  obtain ⟨z, sys, vs, rel, o, es, ep, ho, hex, hd, hkeys, hpairs, hnd⟩ := dk_of I.hok ha
  obtain ⟨⟨as, rk⟩, rv⟩ := ent_of (h := s.heap) rel hpairs
  obtain ⟨⟨bs, rb⟩, ks⟩ := R _ rv
  have hlen : (kvs.map fun kv => keyD kv.1).length = ds.length := by rw [List.length_map, hl]
  have f1 := zip_fstD hlen
  have f2 := zip_sndD hlen
  rw [← hk] at f1 f2
  have nk := keyD_noDict (kvs.map (·.1))
  rw [List.map_map] at nk
  have nk : PyData.hasDictAll (kvs.map fun kv => keyD kv.1) = false := nk
  rw [← f1] at rk nk
  rw [← f2] at rb ks
  have r : Reads s.heap (.ref a) (.dict kd) (a :: as ++ bs) := .dict ho hex.1 hd rk rb
  refine ⟨⟨_, r⟩, fun sh sz => ?_⟩
  have sz' : (dictText (PyData.shownKv kd)).length ≤ sizeLine := by simpa only [PyData.shown] using sz
  obtain ⟨h1, h2⟩ := PyData.showableKv_split kd (by simpa [PyData.showable] using sh)
  obtain ⟨b1, m1, k1⟩ := ReprAllK.of_readsAll (prog := X.prog) (w := X.w) rk h1 (fun q => by rw [nk] at q; cases q) fun t ht => by
    obtain ⟨p, hp, le⟩ := PyData.shownKv_key_le kd t ht
    exact Nat.le_trans le (Nat.le_trans (dictText_mem_le hp) sz')
  obtain ⟨b2, m2, k2⟩ := ks h2 fun t ht => by
    obtain ⟨p, hp, le⟩ := PyData.shownKv_val_le kd t ht
    exact Nat.le_trans le (Nat.le_trans (dictText_mem_le hp) sz')
  have m : ReadAtMost s.heap (PyData.depthKv kd) (b1 ++ b2) := (m1.mono (PyData.depthAll_keys_le kd)).append (m2.mono (PyData.depthAll_vals_le kd))
  have out : a ∉ b1 ++ b2 := not_mem_of_deeper r (by simp only [PyData.depth]; omega) m
  refine ⟨a :: (b1 ++ b2), .cons r (by simp only [PyData.depth]; omega) m, ?_⟩
  simp only [PyData.shown, PyData.depth, PyData.shownKv_eq]
  refine ReprK.dict ho hex.1 hd sys out (ReprEntriesK.of_two es.toList _ _ (k1.more_le (fun b q => ?_) (PyData.depthAll_keys_le kd)) (k2.more_le (fun b q => ?_) (PyData.depthAll_vals_le kd)))
  · exact List.mem_append_left _ q
  · exact List.mem_append_right _ q
theorem rks_cons {d : PyData} {ds : List PyData} {u : Value} {us : List Value} (h : Rk X.prog X.w s.heap d u) (t : Rks X.prog X.w s.heap ds us) : Rks X.prog X.w s.heap (d :: ds) (u :: us) := by
  obtain ⟨⟨as, r⟩, k⟩ := h
  obtain ⟨⟨bs, rs⟩, ks⟩ := t
  refine ⟨⟨_, .cons r rs⟩, fun sh sz => ?_⟩
  obtain ⟨s1, s2⟩ : d.showable = true ∧ PyData.showableAll ds = true := by simpa [PyData.showableAll] using sh
  obtain ⟨b1, m1, k1⟩ := k s1 (sz _ (by simp only [PyData.shownAll]; exact List.mem_cons_self))
  obtain ⟨b2, m2, k2⟩ := ks s2 fun t ht => sz t (by simp only [PyData.shownAll]; exact List.mem_cons_of_mem _ ht)
  have l1 : d.depth ≤ PyData.depthAll (d :: ds) := by simp only [PyData.depthAll]; exact Nat.le_max_left _ _
  have l2 : PyData.depthAll ds ≤ PyData.depthAll (d :: ds) := by simp only [PyData.depthAll]; exact Nat.le_max_right _ _
  refine ⟨b1 ++ b2, (m1.mono l1).append (m2.mono l2), ?_⟩
  simp only [PyData.shownAll]
  exact .cons ((k1.more fun b q => List.mem_append_left _ q).level_le l1) (k2.more_le (fun b q => List.mem_append_right _ q) l2)
theorem rk_of (I : L2.Inv X pins σ H s) {v : V} {d : PyData} (h : DpD X.K H v d) : ∀ u, RelV v u → Rk X.prog X.w s.heap d u := by
  induction h using DpD.rec (motive_2 := fun vs ds _ => ∀ us, Vals vs us → Rks X.prog X.w s.heap ds us) with
  | @data v d h =>
    intro u r
    obtain ⟨as, rd⟩ := Dp.reads I d _ _ h r
    refine ⟨⟨as, rd⟩, fun sh sz => ReprK.of_reads rd sh (fun q => ?_) sz⟩
    rw [dp_noDict h] at q
    cases q
  | @lst a xs ds hq hs ih =>
    intro u r
    cases r
    obtain ⟨its, rv, pl, _⟩ := I.list hq
    obtain ⟨o, ho, hc, n, hd⟩ := pl.isList
    exact rk_list ho hc hd (ih _ rv)
  | @tup a xs ds hq hs ih =>
    intro u r
    cases r
    obtain ⟨its, rv, ⟨o, ho, hc, n, hd⟩, _⟩ := I.tuple hq
    exact rk_tuple ho hc hd (ih _ rv)
  | @dct a kvs ds kd ha hs hk ih =>
    intro u r
    cases r
    exact rk_dict I ha (by rw [← hs.len, List.length_map]) hk ih
  | nil =>
    rename_i us r
    cases r
    exact ⟨⟨_, .nil⟩, fun _ _ => ⟨[], (fun _ q => nomatch q), .nil⟩⟩
  | cons h t ih it =>
    rename_i us r
    cases r with
    | cons r1 r2 => exact rks_cons (ih _ r1) (it _ r2)
theorem rks_of (I : L2.Inv X pins σ H s) : ∀ {vs : List V} {ds : List PyData} {us : List Value}, DpDs X.K H vs ds → Vals vs us → Rks X.prog X.w s.heap ds us
  | _, _, _, .nil, .nil => ⟨⟨_, .nil⟩, fun _ _ => ⟨[], (fun _ q => nomatch q), .nil⟩⟩
  | _, _, _, .cons h t, .cons r1 r2 => rks_cons (rk_of I h _ r1) (rks_of I t r2)
end
end L3
namespace L3
open PySem PySem.Spec PyProof.Rows L2 PpSet
end L3
namespace L3
open PySem PySem.Spec PyProof.Rows L2
end L3
namespace L3
open PySem PySem.Spec PyProof.Rows L2
def k4 {α : Type} : List α → List α → List α
  | [], [w, v, u, t] => [t, u, v, w]
  | _, _ => []
end L3
namespace L3
open PySem PySem.Spec PyProof.Rows L2
def s3 {α : Type} : List α → List α → List α
  | [], [w, v, u] => [u, v, w]
  | _, _ => []
def n3 {α : Type} : List α → List α → List α
  | [s], [w, v, u] => [s, v, u, w]
  | _, _ => []
end L3
namespace L3
open PySem PySem.Spec PyProof.Rows L2 LamX
end L3
namespace L3
open PySem PySem.Spec PyProof.Rows L2
theorem joinE {te : TE} {σ : L2.St} {H : Hp} {Q : VK} (R : V → Hp → Prop) (h : ∀ Q' : VK, (∀ v H', R v H' → Q' v H') → te σ H Q') (k : ∀ v H', R v H' → Q v H') : te σ H Q := h Q k
end L3
namespace L3
open PySem PySem.Spec PyProof.Rows L2 LamX NdefX
/-- the function at f is F, its code object stands -/
def FnAt2 (f : Addr) (F : NF) (H : Hp) : Prop := H f = some (FnO f F) ∧ H F.c = some (CodeO F.c F.qual)
theorem FnAt2.same {f : Addr} {F : NF} {H H' : Hp} (s : Same H H') (h : FnAt2 f F H) : FnAt2 f F H' := ⟨s _ _ h.1, s _ _ h.2⟩
end L3
namespace L3
open PySem PySem.Spec PyProof.Rows L2 Builtin Builtin.ObjectAttr
end L3
namespace L3
open PySem PySem.Spec PyProof.Rows L2 Builtin Builtin.ObjectAttr
end L3
namespace L3
open PySem PySem.Spec PyProof.Rows L2
end L3
namespace L3
open PySem PySem.Spec PyProof.Rows L2
/-- a clause: the class it names, the slot of its name, what its suite does -/
structure Cls1 where
  c : Value
  slot : Option Nat
  ts : Addr → Value → Option Addr → TS
def Cls1.ends (k : Cls1) (D : Ends) : Ends := match k.slot with
  | none => D
  | some i => ⟨fun τ G => D.nx (τ.set i none) G, D.rt, fun τ G => D.bk (τ.set i none) G, fun τ G => D.ct (τ.set i none) G⟩
def Cls1.start (k : Cls1) (a : Addr) (σ : L2.St) : L2.St := match k.slot with
  | none => σ
  | some i => σ.set i (some (.ref a))
/-- what the clauses wish of an error of the body -/
def wMix (K : PySem.W.Frag) (Wout : WX) (D : Ends) : List Cls1 → WX
  | [] => Wout
  | k :: r => fun cls d σ H => ∃ b, PySem.W.exmOne K cls k.c = some b ∧ (b = true → ∀ a, H a = none → k.ts a cls d (k.ends D) (k.start a σ) H) ∧ (b = false → wMix K Wout D r cls d σ H)
/-- a suite that holds an error -/
def SuOk (X : Cx) (b₀ : Stmt) (su : List Stmt) (ts : Addr → Value → Option Addr → TS) : Prop := ∀ (a : Addr) (oe : Obj) (cls : Value) (d : Option Addr) (pn : List (Addr × Obj)), Zc cls d oe → (∃ vs, oe.data = .fields vs) → PSs (X.suite a ((a, oe) :: pn)) (b₀ :: su) (ts a cls d)
inductive MixOk (X : Cx) : List ExceptHandler → List Cls1 → Prop
  | nil : MixOk X [] []
  | bare {x : Str} {c : Value} {ts : Addr → Value → Option Addr → TS} {b₀ : Stmt} {su : List Stmt} {p1 p2 : Pos} {hs : List ExceptHandler} {l : List Cls1} : Names X x c → SuOk X b₀ su ts → MixOk X hs l → MixOk X (.ExceptHandler (some (.Name x p1)) none (b₀ :: su) p2 :: hs) (⟨c, none, ts⟩ :: l)
  | named {x n : Str} {i : Nat} {c : Value} {ts : Addr → Value → Option Addr → TS} {b₀ : Stmt} {su : List Stmt} {p1 p2 : Pos} {hs : List ExceptHandler} {l : List Cls1} : Names X x c → X.N[i]? = some n → X.env.kindOf n = some .local → SuOk X b₀ su ts → MixOk X hs l → MixOk X (.ExceptHandler (some (.Name x p1)) (some n) (b₀ :: su) p2 :: hs) (⟨c, some i, ts⟩ :: l)
section
variable {X : Cx} {pins : List (Addr × Obj)} {σ : L2.St} {H : Hp} {a : Addr} {cls : Value} {d : Option Addr} {B g : Heap} {sI s : Shared}
/-- an error that flies over this frame -/
structure Fly (X : Cx) (pins : List (Addr × Obj)) (σ : L2.St) (H : Hp) (a : Addr) (cls : Value) (d : Option Addr) (B : Heap) (sI s : Shared) (g : Heap) : Prop where
  J : L2.Inv X pins σ H sI
  nb : ∀ b o, sI.heap.get? b = some o → b ∉ frs X.stack → B.get? b = some o
  up : sI.heap.UpToSlots g
  fl : HandSPX.FlyingZ B (X.env :: X.outer) a (Zc cls d) g
  na : H a = none
  os : s.os = sI.os
  ag : AllBare s.gens
theorem Fly.inv (F : Fly X pins σ H a cls d B sI s g) : L2.Inv X pins σ H { s with heap := g } := F.J.landed F.nb F.fl.1 F.up F.os F.ag
theorem Fly.suite (F : Fly X pins σ H a cls d B sI s g) (hf : X.env.frame = some X.env.locals) : ∃ (oe : Obj) (vs : Array Value), g.get? a = some oe ∧ Zc cls d oe ∧ oe.data = .fields vs ∧ L2.Inv (X.suite a ((a, oe) :: (X.pn ++ pins))) [] σ H { s with heap := g } := by
  obtain ⟨oe, vs, h1, h2, h3⟩ := F.fl.there
  have out : a ∉ frs (X.env :: X.outer) := fun m => by
    obtain ⟨_, u, e, no⟩ := F.fl.2.2.1.mem m
    rw [h1] at e
    cases e
    exact no _ h3
  refine ⟨oe, vs, h1, h2, h3, F.inv.suite h1 h3 F.na (fun z => out ?_) fun m => out ?_⟩
  · exact List.mem_filterMap.mpr ⟨_, List.mem_cons_self, by rw [hf, z]⟩
  · obtain ⟨v, m1, m2⟩ := List.mem_filterMap.mp m
    exact List.mem_filterMap.mpr ⟨v, List.mem_cons_of_mem _ m1, m2⟩
/-- the class of a clause is asked -/
theorem Fly.asked (F : Fly X pins σ H a cls d B sI s g) (hf : X.env.frame = some X.env.locals) {x : Str} {c : Value} {b : Bool} {p1 : Pos} (hc : Names X x c) (hb : PySem.W.exmOne X.K cls c = some b) {M : Value → Shared → Prop} {E : Value → Shared → Prop} (k : M c { s with heap := g }) :
    wpAny (model X.prog X.w) (X.A.mark (some (.ref a))) (eval (.Name x p1) X.env) M E { s with heap := g } := by
  obtain ⟨oe, vs, h1, h2, h3, S⟩ := F.suite hf
  obtain ⟨n1, n2, m | ⟨m, n3, n4⟩⟩ := hc
  · exact ld_glob (X := X.suite a ((a, oe) :: (X.pn ++ pins))) S n1 m k n2
  · exact ld_blt (X := X.suite a ((a, oe) :: (X.pn ++ pins))) S n1 m n3 k n4 n2
theorem Fly.match_ (F : Fly X pins σ H a cls d B sI s g) {c : Value} {b : Bool} (hb : PySem.W.exmOne X.K cls c = some b) : PySem.W.Looks (model X.prog X.w) g (excMatches (.ref a) c) b := by
  obtain ⟨oe, vs, h1, h2, h3⟩ := F.fl.there
  refine PySem.W.exm_one F.inv.kIn (fun A' M' E' s1 k q => ?_) hb
  refine wpAny_typeOf_ref (k _ _ h1) ?_
  rw [h2.1]
  exact q
/-- on from here, the frame's flight noted again -/
theorem Fly.on (F : Fly X pins σ H a cls d B sI s g) {g' : Heap} (f : HandSPX.FlyingZ B (X.env :: X.outer) a (Zc cls d) g') (u : g.UpToSlots g') : Fly X pins σ H a cls d B sI s g' := ⟨F.J, F.nb, F.up.trans u, f, F.na, F.os, F.ag⟩
variable {D : Ends} {Wout : WX} {hs : List ExceptHandler} {x n : Str} {i : Nat} {c : Value} {ts : Addr → Value → Option Addr → TS} {b₀ : Stmt} {su : List Stmt} {p1 p2 : Pos} {b : Bool}
/-- no clause is left -/
theorem Fly.out (F : Fly X pins σ H a cls d B sI s g) (st : X.stack = X.env :: X.outer) (hf : X.env.frame = some X.env.locals) (tk : Takes X Wout) (w : Wout cls d σ H) :
    wpAny (model X.prog X.w) X.A (handleBy (.ref a) X.env []) (SP X pins D) X.xe { s with heap := g } := by
  have throw_ : wpAny (model X.prog X.w) X.A (setFlight (.ref a) X.env.frame) (fun _ s4 => wpAny (model X.prog X.w) X.A (throw (.ref a) : Sem Flow) (SP X pins D) X.xe s4) X.xe { s with heap := g } := by
    rw [hf]
    refine HandSPX.setFlight_upZ F.fl fun g4 sk u4 => ?_
    refine wpAny_throw (tk _ _ ⟨a, B, sI, pins, σ, H, cls, d, rfl, F.J, F.nb, F.up.trans u4, .inr (.inr ?_), F.na, F.os, F.ag, w⟩)
    rw [st]
    exact sk
  obtain ⟨_, _, _, oe, vs, tb, _, _, e1, _, e3, e4, _⟩ := id F.fl
  have ne : ¬ ((Value.ref tb == Value.none) = true) := by simp
  refine wpAny_handleBy_nil ?_
  unfold PySem.passOn
  refine wpAny_bind (wpAny_field e1 e3 e4 ?_)
  rw [if_neg ne]
  first
    | exact wpAny_bind throw_
    | exact wpAny_bind (wpAny_pure (wpAny_bind throw_))
/-- a clause without a name -/
theorem Fly.bare (F : Fly X pins σ H a cls d B sI s g) (hf : X.env.frame = some X.env.locals) (hc : Names X x c) (hsu : SuOk X b₀ su ts) (hb : PySem.W.exmOne X.K cls c = some b) (yes : b = true → ts a cls d D σ H)
    (no : b = false → wpAny (model X.prog X.w) X.A (handleBy (.ref a) X.env hs) (SP X pins D) X.xe { s with heap := g }) :
    wpAny (model X.prog X.w) X.A (handleBy (.ref a) X.env (.ExceptHandler (some (.Name x p1)) none (b₀ :: su) p2 :: hs)) (SP X pins D) X.xe { s with heap := g } := by
  refine wpAny_handleBy_cons (codeAny_handlers_test (F.asked hf hc hb ((F.match_ hb).here ?_))) fun q => nomatch q
  cases b with
  | false => exact no rfl
  | true =>
    refine codeAny_handlers_suite (HandSPX.lands_againZ F.fl fun g4 f4 u4 => ?_)
    have F4 := F.on f4 u4
    have ok := F.J.ok
    obtain ⟨oe, vs, _, z, e3, S⟩ := F4.suite hf
    refine wpAny_mono ((hsu a oe cls d (X.pn ++ pins) z ⟨_, e3⟩).run [] _ _ H _ S (yes rfl)) (fun fl s6 r => ?_) (fun _ _ z => z.elim)
    cases fl with
    | next => obtain ⟨τ, G, S6, q6⟩ := r; exact ⟨τ, G, S6.unsuite ok, q6⟩
    | brk => obtain ⟨τ, G, S6, q6⟩ := r; exact ⟨τ, G, S6.unsuite ok, q6⟩
    | cont => obtain ⟨τ, G, S6, q6⟩ := r; exact ⟨τ, G, S6.unsuite ok, q6⟩
    | ret u => obtain ⟨y, τ, G, S6, ry, q6⟩ := r; exact ⟨y, τ, G, S6.unsuite ok, ry, q6⟩
/-- a clause with a name -/
theorem Fly.named (F : Fly X pins σ H a cls d B sI s g) (hf : X.env.frame = some X.env.locals) (nd : X.N.Nodup) (hc : Names X x c) (hi : X.N[i]? = some n) (hn : X.env.kindOf n = some .local) (hsu : SuOk X b₀ su ts) (hb : PySem.W.exmOne X.K cls c = some b)
    (yes : b = true → ts a cls d ((⟨c, some i, ts⟩ : Cls1).ends D) (σ.set i (some (.ref a))) H)
    (no : b = false → wpAny (model X.prog X.w) X.A (handleBy (.ref a) X.env hs) (SP X pins D) X.xe { s with heap := g }) :
    wpAny (model X.prog X.w) X.A (handleBy (.ref a) X.env (.ExceptHandler (some (.Name x p1)) (some n) (b₀ :: su) p2 :: hs)) (SP X pins D) X.xe { s with heap := g } := by
  refine wpAny_handleBy_cons (codeAny_handlers_test (F.asked hf hc hb ((F.match_ hb).here ?_))) fun q => nomatch q
  cases b with
  | false => exact no rfl
  | true =>
    refine codeAny_handlers_suite_as (HandSPX.lands_againZ F.fl fun g4 f4 u4 => ?_)
    have F4 := F.on f4 u4
    have ok := F.J.ok
    obtain ⟨oe, vs, _, z, e3, S⟩ := F4.suite hf
    refine store_ok (X := X.suite a ((a, oe) :: (X.pn ++ pins))) (v := .ref a) S nd hi (.inl hn) rfl (fun s5 S5 => ?_) (.inr hn)
    refine wpAny_mono ((hsu a oe cls d (X.pn ++ pins) z ⟨_, e3⟩).run [] s5 _ H _ S5 (yes rfl)) (fun fl s6 r => ?_) (fun _ _ z => z.elim)
    cases fl with
    | next => obtain ⟨τ, G, S6, q6⟩ := r; exact gone_ok (S6.unsuite ok) nd hi hn fun s7 J7 => ⟨_, _, J7, q6⟩
    | brk => obtain ⟨τ, G, S6, q6⟩ := r; exact gone_ok (S6.unsuite ok) nd hi hn fun s7 J7 => ⟨_, _, J7, q6⟩
    | cont => obtain ⟨τ, G, S6, q6⟩ := r; exact gone_ok (S6.unsuite ok) nd hi hn fun s7 J7 => ⟨_, _, J7, q6⟩
    | ret u => obtain ⟨y, τ, G, S6, ry, q6⟩ := r; exact gone_ok (S6.unsuite ok) nd hi hn fun s7 J7 => ⟨_, _, _, J7, ry, q6⟩
theorem Fly.all (F : Fly X pins σ H a cls d B sI s g) (st : X.stack = X.env :: X.outer) (hf : X.env.frame = some X.env.locals) (nd : X.N.Nodup) (tk : Takes X Wout) : ∀ {hs : List ExceptHandler} {l : List Cls1}, MixOk X hs l → wMix X.K Wout D l cls d σ H →
    wpAny (model X.prog X.w) X.A (handleBy (.ref a) X.env hs) (SP X pins D) X.xe { s with heap := g }
  | _, _, .nil, w => F.out st hf tk w
  | _, _, .bare hc hsu r, ⟨_, hb, yes, no⟩ => F.bare hf hc hsu hb (fun e => yes e a F.na) fun e => F.all st hf nd tk r (no e)
  | _, _, .named hc hi hn hsu r, ⟨_, hb, yes, no⟩ => F.named hf nd hc hi hn hsu hb (fun e => yes e a F.na) fun e => F.all st hf nd tk r (no e)
end
end L3
namespace L3
open PySem PySem.Spec PyProof.Rows L2
end L3
namespace PySem.SeqAt
open PySem.Meets PySem.MeetsSeq MeetsSeq2 MeetsSeq3 SeqRoads2
end PySem.SeqAt
namespace L3
open PySem PySem.Spec PyProof.Rows L2
/-- the name of the data's type -/
def tyD : PyData → String
  | .none => "NoneType"
  | .bool _ => "bool"
  | .int _ => "int"
  | .str _ => "str"
  | .list _ => "list"
  | .tuple _ => "tuple"
  | .dict _ => "dict"
theorem tyx_sqL {K : PySem.W.Frag} {H : Hp} {a : Addr} {xs : List V} (h : SqL K H a xs) : TyX K H (.ref a) (.type "list") := by
  rcases h with (h | ⟨o, h⟩) | ⟨o, its, n, hk, hc, _⟩
  · exact .base (.lst h)
  · exact .base (.frz h)
  · exact .kList hk hc
theorem tyx_sqT {K : PySem.W.Frag} {H : Hp} {a : Addr} {xs : List V} (h : SqT K H a xs) : TyX K H (.ref a) (.type "tuple") := by
  rcases h with (h | ⟨o, h⟩) | ⟨o, its, n, hk, hc, _⟩
  · exact .base (.tup h)
  · exact .fTuple h
  · exact .kTuple hk hc
theorem tyx_dp {K : PySem.W.Frag} {H : Hp} {v : V} {d : PyData} (h : Dp K H v d) : TyX K H v (.type (tyD d)) := by
  cases h with
  | non => exact .base .non
  | bl b => exact .base (.bl b)
  | int i => exact .base (.int i)
  | str x => exact .base (.str x)
  | lst h _ => exact tyx_sqL h
  | tup h _ => exact tyx_sqT h
theorem tyx_dpD {K : PySem.W.Frag} {H : Hp} {v : V} {d : PyData} (h : DpD K H v d) : TyX K H v (.type (tyD d)) := by
  cases h with
  | data h => exact tyx_dp h
  | lst h _ => exact tyx_sqL h
  | tup h _ => exact tyx_sqT h
  | dct h _ e => subst e; exact .base (.dK h)
/-- what data of a kind is -/
theorem DpD.str_inv {K : PySem.W.Frag} {H : Hp} {v : V} {x : Str} (h : DpD K H v (.str x)) : v = .str x := by
  cases h with
  | data h => cases h; rfl
section
variable {X : Cx} {pins : List (Addr × Obj)} {σ : L2.St} {H : Hp} {s : Shared}
/-- repr(v), v data -/
def rReprA (K : PySem.W.Frag) : List V → Hp → VK → Prop := fun xs H Q => ∃ (v : V) (d : PyData), xs = [v] ∧ DpD K H v d ∧ d.showable = true ∧ d.shown.length ≤ sizeLine ∧ d.depth ≤ 50 ∧ Q (.str d.shown) H
theorem call_reprA (hu : X.A.units + 60 < cLine) (hG : X.A.guards = some []) : CallR X (.builtin "repr") (rReprA X.K) := by
  intro pins s σ H xs us Q I r h
  obtain ⟨v, d, rfl, hd, sh, sz, dp, q⟩ := h
  obtain ⟨u, rfl, rv⟩ : ∃ u, us = [u] ∧ RelV v u := by
    cases r with
    | cons a b => cases b; exact ⟨_, rfl, a⟩
  have fin : ∀ (h' : Heap) (t tk : Tok), (∀ b o, s.heap.get? b = some o → h'.get? b = some o) → EP X pins σ Q (.str d.shown t) { s with heap := h', toks := tk } := fun h' t tk hk => ⟨.str _, H, I.kept hk, ⟨_, rfl⟩, q⟩
  cases hd with
  | data hd =>
    cases hd with
    | non => cases rv; exact P.repr_of_none ⟨.str _, H, I.tok _, ⟨_, rfl⟩, by simpa only [PyData.shown] using q⟩
    | bl b =>
      cases rv
      cases b
      · exact P.repr_of_bool ⟨.str (PyData.bool false).shown, H, I.tok _, ⟨s.toks, rfl⟩, q⟩
      · exact P.repr_of_bool ⟨.str (PyData.bool true).shown, H, I.tok _, ⟨s.toks, rfl⟩, q⟩
    | int i =>
      obtain ⟨t, rfl⟩ := rv
      exact P.repr_of_int (by simpa [PyData.showable] using sh) ⟨.str _, H, I.tok _, ⟨_, rfl⟩, q⟩
    | str x =>
      obtain ⟨t, rfl⟩ := rv
      exact P.repr_of_str ⟨.str _, H, I.tok _, ⟨_, rfl⟩, by simpa only [PyData.shown] using q⟩ (by simpa only [PyData.shown] using sz)
    | lst hq ha =>
      cases rv
      obtain ⟨as, rd⟩ := Dp.reads I _ _ _ (.lst hq ha) rfl
      exact PySem.repr_of_reads' rd sh (fun z => by rw [dp_noDict (.lst hq ha)] at z; cases z) hG (by omega) (fun _ _ e => e) fin sz
    | tup hq ha =>
      cases rv
      obtain ⟨as, rd⟩ := Dp.reads I _ _ _ (.tup hq ha) rfl
      exact PySem.repr_of_reads' rd sh (fun z => by rw [dp_noDict (.tup hq ha)] at z; cases z) hG (by omega) (fun _ _ e => e) fin sz
  | lst hq hs =>
    rename_i a xs ds
    cases rv
    obtain ⟨its, rv, pl, _⟩ := I.list hq
    obtain ⟨o, ho, hc, n, hda⟩ := pl.isList
    obtain ⟨⟨as, ra⟩, ks⟩ := rks_of I hs rv
    have rr : Reads s.heap (.ref a) (.list ds) (a :: as) := .list ho hc hda (by simpa using ra)
    have sz' : (listText (PyData.shownAll ds)).length ≤ sizeLine := by simpa only [PyData.shown] using sz
    obtain ⟨bs, m, kk⟩ := ks (by simpa [PyData.showable] using sh) fun t ht => Nat.le_trans (listText_mem_le ht) sz'
    have out : a ∉ bs := not_mem_of_deeper rr (by simp only [PyData.depth]; omega) m
    have ty : s.TypeIs (.ref a) "list" := ⟨o, ho, hc⟩
    simp only [PyData.depth] at dp
    simp only [PyData.shown] at fin
    refine call_repr_slot (by omega) ty F.slot_list_repr.toG ?_
    cases its with
    | nil =>
      cases ra
      simp only [PyData.shownAll, listText_nil] at fin
      exact call_list_repr_empty ty ho hda ⟨_, _, rfl, fin _ _ _ fun _ _ e => e⟩
    | cons x l =>
      refine call_list_reprK ho hc hda out (by simpa using kk.length_eq) (fun i y e => kk.item i y (by simpa using e)) hG (fun b _ => Clear.nil b) ?_ (fun _ _ e => e) (fun h' u tk hk => ⟨_, _, rfl, fin _ _ _ hk⟩) sz'
      show X.A.units + 1 + (PyData.depthAll ds + 1) < cLine
      omega
  | tup hq hs =>
    rename_i a xs ds
    cases rv
    obtain ⟨its, rv, ⟨o, ho, hc, n, hda⟩, _⟩ := I.tuple hq
    obtain ⟨⟨as, ra⟩, ks⟩ := rks_of I hs rv
    have rr : Reads s.heap (.ref a) (.tuple ds) as := .tuple ho hc hda (by simpa using ra)
    have sz' : (tupleText (PyData.shownAll ds)).length ≤ sizeLine := by simpa only [PyData.shown] using sz
    obtain ⟨bs, m, kk⟩ := ks (by simpa [PyData.showable] using sh) fun t ht => Nat.le_trans (tupleText_mem_le ht) sz'
    have out : a ∉ bs := not_mem_of_deeper rr (by simp only [PyData.depth]; omega) m
    simp only [PyData.depth] at dp
    simp only [PyData.shown] at fin
    refine call_repr_slot (by omega) ⟨o, ho, hc⟩ F.slot_tuple_repr ?_
    refine call_tuple_reprK ho hc hda out (by simpa using kk) hG (fun b _ => Clear.nil b) ?_ (fun _ _ e => e) (fun h' u tk hk => ⟨_, _, rfl, fin _ _ _ hk⟩) sz'
    show X.A.units + 1 + (PyData.depthAll ds + 1) < cLine
    omega
  | dct ha hs hk =>
    rename_i a kvs ds kd
    cases rv
    have hl : kvs.length = ds.length := by rw [← hs.len, List.length_map]
    obtain ⟨z, sys, vs, rel, o, es, ep, ho, hex, hd, hkeys, hpairs, hnd⟩ := dk_of I.hok ha
    obtain ⟨⟨as, rk⟩, rv⟩ := ent_of (h := s.heap) rel hpairs
    obtain ⟨⟨bs, rb⟩, ks⟩ := rks_of I hs rv
    have hlen : (kvs.map fun kv => keyD kv.1).length = ds.length := by rw [List.length_map, hl]
    have f1 := zip_fstD hlen
    have f2 := zip_sndD hlen
    rw [← hk] at f1 f2
    have nk := keyD_noDict (kvs.map (·.1))
    rw [List.map_map] at nk
    have nk : PyData.hasDictAll (kvs.map fun kv => keyD kv.1) = false := nk
    rw [← f1] at rk nk
    rw [← f2] at rb ks
    have r : Reads s.heap (.ref a) (.dict kd) (a :: as ++ bs) := .dict ho hex.1 hd rk rb
    have sz' : (dictText (PyData.shownKv kd)).length ≤ sizeLine := by simpa only [PyData.shown] using sz
    obtain ⟨h1, h2⟩ := PyData.showableKv_split kd (by simpa [PyData.showable] using sh)
    obtain ⟨b1, m1, k1⟩ := ReprAllK.of_readsAll (prog := X.prog) (w := X.w) rk h1 (fun q => by rw [nk] at q; cases q) fun t ht => by
      obtain ⟨p, hp, le⟩ := PyData.shownKv_key_le kd t ht
      exact Nat.le_trans le (Nat.le_trans (dictText_mem_le hp) sz')
    obtain ⟨b2, m2, k2⟩ := ks h2 fun t ht => by
      obtain ⟨p, hp, le⟩ := PyData.shownKv_val_le kd t ht
      exact Nat.le_trans le (Nat.le_trans (dictText_mem_le hp) sz')
    have m : ReadAtMost s.heap (PyData.depthKv kd) (b1 ++ b2) := (m1.mono (PyData.depthAll_keys_le kd)).append (m2.mono (PyData.depthAll_vals_le kd))
    have out : a ∉ b1 ++ b2 := not_mem_of_deeper r (by simp only [PyData.depth]; omega) m
    simp only [PyData.depth] at dp
    simp only [PyData.shown, PyData.shownKv_eq] at fin
    refine call_repr_slot (by omega) ⟨o, ho, hex.1⟩ F.slot_dict_repr ?_
    refine call_dict_reprK ho hex.1 hd sys out (ReprEntriesK.of_two es.toList _ _ (k1.more_le (fun b q => List.mem_append_left _ q) (PyData.depthAll_keys_le kd)) (k2.more_le (fun b q => List.mem_append_right _ q) (PyData.depthAll_vals_le kd))) hG (fun b _ => Clear.nil b) ?_ (fun _ _ e => e) (fun h' u tk hk => ⟨_, _, rfl, fin _ _ _ hk⟩) (by rw [← PyData.shownKv_eq]; exact sz')
    show X.A.units + 1 + (PyData.depthKv kd + 1) < cLine
    omega
theorem call_reprAK {K : PySem.W.Frag} (h : X.K = K) (hu : X.A.units + 60 < cLine) (hG : X.A.guards = some []) : CallR X (.builtin "repr") (rReprA K) := h ▸ call_reprA hu hG
end
end L3
namespace Lw
open PySem PySem.Spec PyProof.Rows L2 L3
def topS (i : Nat) : Stmt := PySem.Challenge.pw_missedparts_k81_lines_as_values.main.body.getD i (.Pass ⟨0, 0, 0, 0⟩)
abbrev s_is_list : Stmt := topS 6
abbrev s_is_text : Stmt := topS 7
abbrev s_are_letters : Stmt := topS 8
abbrev s_is_text_over : Stmt := topS 9
abbrev s_are_hearings : Stmt := topS 11
abbrev s_is_line_over : Stmt := topS 12
abbrev s_is_line : Stmt := topS 13
abbrev s_law_pot : Stmt := topS 15
abbrev s_law_draw : Stmt := topS 16
abbrev s_law_pick : Stmt := topS 17
abbrev s_law_mixed : Stmt := topS 18
abbrev s_law_mixed_line : Stmt := topS 19
abbrev s_law_line : Stmt := topS 20
abbrev s_law_is_hearing : Stmt := topS 21
abbrev s_law_is_due : Stmt := topS 22
abbrev s_law_other : Stmt := topS 23
abbrev s_law_right : Stmt := topS 24
abbrev s_law : Stmt := topS 25
theorem sc_is_list : FnScope ["value"] ["value"] (defScope s_is_list) := ⟨rfl, rfl, rfl, by decide +kernel, rfl, by decide +kernel, by decide +kernel⟩
theorem sc_is_text : FnScope ["value", "sign"] ["value"] (defScope s_is_text) := ⟨rfl, rfl, rfl, by decide +kernel, rfl, by decide +kernel, by decide +kernel⟩
theorem sc_are_letters : FnScope ["value"] ["value"] (defScope s_are_letters) := ⟨rfl, rfl, rfl, by decide +kernel, rfl, by decide +kernel, by decide +kernel⟩
theorem sc_is_text_over : FnScope ["letters", "value", "sign"] ["letters", "value"] (defScope s_is_text_over) := ⟨rfl, rfl, rfl, by decide +kernel, rfl, by decide +kernel, by decide +kernel⟩
theorem sc_are_hearings : FnScope ["letters", "value", "hearing"] ["letters", "value"] (defScope s_are_hearings) := ⟨rfl, rfl, rfl, by decide +kernel, rfl, by decide +kernel, by decide +kernel⟩
theorem sc_is_line_over : FnScope ["letters", "value", "letter"] ["letters", "value"] (defScope s_is_line_over) := ⟨rfl, rfl, rfl, by decide +kernel, rfl, by decide +kernel, by decide +kernel⟩
theorem sc_is_line : FnScope ["letters", "value"] ["letters", "value"] (defScope s_is_line) := ⟨rfl, rfl, rfl, by decide +kernel, rfl, by decide +kernel, by decide +kernel⟩
theorem sc_law_pot : FnScope ["_law_script", "_law_k", "_law_cell"] ["_law_script", "_law_k"] (defScope s_law_pot) := ⟨rfl, rfl, rfl, by decide +kernel, rfl, by decide +kernel, by decide +kernel⟩
theorem sc_law_draw : FnScope ["_law_pot_here", "_law_size", "_law_digit"] ["_law_pot_here", "_law_size"] (defScope s_law_draw) := ⟨rfl, rfl, rfl, by decide +kernel, rfl, by decide +kernel, by decide +kernel⟩
theorem sc_law_pick : FnScope ["_law_pot_here", "_law_some"] ["_law_pot_here", "_law_some"] (defScope s_law_pick) := ⟨rfl, rfl, rfl, by decide +kernel, rfl, by decide +kernel, by decide +kernel⟩
theorem sc_law_mixed : FnScope ["_law_pot_here", "_law_some", "_law_left", "_law_found", "_law_turn"] ["_law_pot_here", "_law_some"] (defScope s_law_mixed) := ⟨rfl, rfl, rfl, by decide +kernel, rfl, by decide +kernel, by decide +kernel⟩
theorem sc_law_mixed_line : FnScope ["_law_pot_here", "_law_signs", "_law_line_here", "_law_sign"] ["_law_pot_here", "_law_signs", "_law_line_here"] (defScope s_law_mixed_line) := ⟨rfl, rfl, rfl, by decide +kernel, rfl, by decide +kernel, by decide +kernel⟩
theorem sc_law_line : FnScope ["_law_pot_here", "_law_signs", "_law_found", "_law_sign", "_law_some", "_law_one"] ["_law_pot_here", "_law_signs"] (defScope s_law_line) := ⟨rfl, rfl, rfl, by decide +kernel, rfl, by decide +kernel, by decide +kernel⟩
theorem sc_law_is_hearing : FnScope ["_law_signs", "_law_thing"] ["_law_signs", "_law_thing"] (defScope s_law_is_hearing) := ⟨rfl, rfl, rfl, by decide +kernel, rfl, by decide +kernel, by decide +kernel⟩
theorem sc_law_is_due : FnScope ["_law_signs", "_law_thing", "_law_key", "_law_sign", "_law_hearings", "_law_one"] ["_law_signs", "_law_thing"] (defScope s_law_is_due) := ⟨rfl, rfl, rfl, by decide +kernel, rfl, by decide +kernel, by decide +kernel⟩
theorem sc_law_other : FnScope ["_law_pot_here", "_law_signs", "_law_line_here", "_law_rows", "_law_way", "_law_sign", "_law_hearings", "_law_one"] ["_law_pot_here", "_law_signs", "_law_line_here"] (defScope s_law_other) := ⟨rfl, rfl, rfl, by decide +kernel, rfl, by decide +kernel, by decide +kernel⟩
theorem sc_law_right : FnScope ["_law_pot_here", "_law_signs", "_law_values", "_law_turn", "_law_thing", "_law_look", "_law_due"] ["_law_pot_here"] (defScope s_law_right) := ⟨rfl, rfl, rfl, by decide +kernel, rfl, by decide +kernel, by decide +kernel⟩
theorem sc_law : FnScope ["_law_script", "_law_k"] ["_law_script"] (defScope s_law) := ⟨rfl, rfl, rfl, by decide +kernel, rfl, by decide +kernel, by decide +kernel⟩
/-- what the top has left of a def -/
structure Dn (K : PySem.W.Frag) (mg : Str → Option Value) (x : Str) (st : Stmt) (ps : List Str) (f : Addr) (fd : FuncData) : Prop where
  F : Fun K x x st f fd
  b : L2.Binds K fd ps []
  g : mg x = some (.ref f)
structure All (K : PySem.W.Frag) (mg : Str → Option Value) where
  f_is_list : Addr
  d_is_list : FuncData
  is_list : Dn K mg "is_list" s_is_list ["value"] f_is_list d_is_list
  f_is_text : Addr
  d_is_text : FuncData
  is_text : Dn K mg "is_text" s_is_text ["value"] f_is_text d_is_text
  f_are_letters : Addr
  d_are_letters : FuncData
  are_letters : Dn K mg "are_letters" s_are_letters ["value"] f_are_letters d_are_letters
  f_is_text_over : Addr
  d_is_text_over : FuncData
  is_text_over : Dn K mg "is_text_over" s_is_text_over ["letters", "value"] f_is_text_over d_is_text_over
  f_are_hearings : Addr
  d_are_hearings : FuncData
  are_hearings : Dn K mg "are_hearings" s_are_hearings ["letters", "value"] f_are_hearings d_are_hearings
  f_is_line_over : Addr
  d_is_line_over : FuncData
  is_line_over : Dn K mg "is_line_over" s_is_line_over ["letters", "value"] f_is_line_over d_is_line_over
  f_is_line : Addr
  d_is_line : FuncData
  is_line : Dn K mg "is_line" s_is_line ["letters", "value"] f_is_line d_is_line
  f_law_pot : Addr
  d_law_pot : FuncData
  law_pot : Dn K mg "_law_pot" s_law_pot ["_law_script", "_law_k"] f_law_pot d_law_pot
  f_law_draw : Addr
  d_law_draw : FuncData
  law_draw : Dn K mg "_law_draw" s_law_draw ["_law_pot_here", "_law_size"] f_law_draw d_law_draw
  f_law_pick : Addr
  d_law_pick : FuncData
  law_pick : Dn K mg "_law_pick" s_law_pick ["_law_pot_here", "_law_some"] f_law_pick d_law_pick
  f_law_mixed : Addr
  d_law_mixed : FuncData
  law_mixed : Dn K mg "_law_mixed" s_law_mixed ["_law_pot_here", "_law_some"] f_law_mixed d_law_mixed
  f_law_mixed_line : Addr
  d_law_mixed_line : FuncData
  law_mixed_line : Dn K mg "_law_mixed_line" s_law_mixed_line ["_law_pot_here", "_law_signs", "_law_line_here"] f_law_mixed_line d_law_mixed_line
  f_law_line : Addr
  d_law_line : FuncData
  law_line : Dn K mg "_law_line" s_law_line ["_law_pot_here", "_law_signs"] f_law_line d_law_line
  f_law_is_hearing : Addr
  d_law_is_hearing : FuncData
  law_is_hearing : Dn K mg "_law_is_hearing" s_law_is_hearing ["_law_signs", "_law_thing"] f_law_is_hearing d_law_is_hearing
  f_law_is_due : Addr
  d_law_is_due : FuncData
  law_is_due : Dn K mg "_law_is_due" s_law_is_due ["_law_signs", "_law_thing"] f_law_is_due d_law_is_due
  f_law_other : Addr
  d_law_other : FuncData
  law_other : Dn K mg "_law_other" s_law_other ["_law_pot_here", "_law_signs", "_law_line_here"] f_law_other d_law_other
  f_law_right : Addr
  d_law_right : FuncData
  law_right : Dn K mg "_law_right" s_law_right ["_law_pot_here"] f_law_right d_law_right
  f_law : Addr
  d_law : FuncData
  law : Dn K mg "law" s_law ["_law_script"] f_law d_law
  b_abs : mg "abs" = none
  b_all : mg "all" = none
  b_dict : mg "dict" = none
  b_divmod : mg "divmod" = none
  b_int : mg "int" = none
  b_isinstance : mg "isinstance" = none
  b_len : mg "len" = none
  b_list : mg "list" = none
  b_max : mg "max" = none
  b_min : mg "min" = none
  b_range : mg "range" = none
  b_repr : mg "repr" = none
  b_set : mg "set" = none
  b_sorted : mg "sorted" = none
  b_str : mg "str" = none
  b_tuple : mg "tuple" = none
  c_SMALL : ∃ t, mg "SMALL" = some (.str "abcdefghijklmnopqrstuvwxyz" t)
  c_MOST_LETTERS : ∃ t, mg "MOST_LETTERS" = some (.int 3 t)
end Lw
namespace PySem.SeqAt
open AutoSeq1 (wpAny_loadPart')
open MeetsSeq
end PySem.SeqAt
namespace L3
open PySem PySem.Spec PyProof.Rows L2
end L3
namespace L3
open PySem PySem.Spec PyProof.Rows L2
end L3
namespace L3
open PySem PySem.Spec PyProof.Rows L2
theorem vals_bk : ∀ {xs : List V} {us : List Value}, Vals xs us → ∀ {i : Nat} {u : Value}, us[i]? = some u → ∃ x, xs[i]? = some x ∧ RelV x u
  | _, _, .nil, i, u, h => by cases h
  | _, _, .cons r t, 0, u, h => by cases h; exact ⟨_, rfl, r⟩
  | _, _, .cons r t, i + 1, u, h => vals_bk t h
section
variable {P : Program} {w : World} {A : Around} {E : Value → Shared → Prop} {s : Shared}
set_option maxHeartbeats 8000000 in
/-- set(list of texts) -/
theorem call_set_texts {l : Addr} {items : Array Value} (bs : List (List Nat)) {Q : Value → Shared → Prop} (hh : A.handled = none) (hl : s.heap.IsList l items) (hit : Vals (bs.map tx) items.toList) (hb : bs.length + 1 < scanBound)
    (h : ∀ (h' : Heap) (tk : Nat), SetT w h' s.heap.objs.size (ded (fun i => bs.getD i []) bs.length) → (∀ b o, s.heap.get? b = some o → h'.get? b = some o) → Q (.ref s.heap.objs.size) { s with heap := h', toks := tk }) :
    wpAny (model P w) A (call (.type "set") [.ref l]) Q E s := by
  have hisz : items.size = bs.length := by
    rw [← Array.length_toList, ← hit.length, List.length_map]
  obtain ⟨c, tl, hmro⟩ := PySem.F.called_set.mro
  have hmade := PySem.F.called_set.made
  have hsub := PySem.F.called_set.sub
  refine wpAny_call (codeAny_of_tree ?_)
  show wpAny _ _ (callAny (.type "set") _) _ _ _
  refine wpAny_pure ⟨Code.quiet_builtin _ (by decide +kernel), codeAny_builtin PySem.F.entry_type_call ?_⟩
  rw [Around.under_plain (weight_type_call_type "set" [.ref l] []) rfl]
  have h1 := PySem.F.called_set.notType
  have h2 := PySem.F.called_set.canCreate
  have hct := PySem.F.typeCall_set_1 (.ref l)
  repeat (any_goals (first | assumption | wp_step))
  refine codeAny_mono (L3.code_set_led1 (.ref l) (E := E) (Q₁ := fun obj s₁ => obj = .ref s.heap.objs.size ∧ s₁ = { s with heap := s.heap.push { cls := .type "set", dict := none, data := .set #[] 0 (.fresh 0 0 (!w.params.followText "set-order")) } }) ⟨rfl, rfl⟩) fun r s₁ hr => ?_
  cases r with
  | error e => exact hr
  | ok fl =>
    cases fl with
    | ret obj =>
      obtain ⟨rfl, rfl⟩ := hr
      have hS : (s.heap.push { cls := .type "set", dict := none, data := .set #[] 0 (.fresh 0 0 (!w.params.followText "set-order")) }).get? s.heap.objs.size = some { cls := .type "set", dict := none, data := .set #[] 0 (.fresh 0 0 (!w.params.followText "set-order")) } := Heap.get?_push_size _ rfl
      have hT : Shared.TypeIs { s with heap := s.heap.push { cls := .type "set", dict := none, data := .set #[] 0 (.fresh 0 0 (!w.params.followText "set-order")) } } (.ref s.heap.objs.size) "set" := ⟨_, hS, rfl⟩
      have hli := PySem.F.called_set.init.lookup
      have hbi := PySem.F.called_set.init.bind (.ref s.heap.objs.size)
      repeat (any_goals (first | assumption | wp_step))
      refine codeAny_mono (codeAny_call_builtin (R := wants (fun r s₂ => r = .none ∧ ∃ h' tk, s₂ = { s with heap := h', toks := tk } ∧ SetT w h' s.heap.objs.size (ded (fun i => bs.getD i []) bs.length) ∧
          (∀ b o, s.heap.get? b = some o → h'.get? b = some o)) E) PySem.F.called_set.init.plain PySem.F.entry_set_init (PySem.check_set_init_1 hT ?_)) fun r₂ s₂ hr₂ => ?_
      · obtain ⟨ol, hol, hcl, nl, hdl⟩ := hl
        obtain ⟨ocls, odict, odata, oslots⟩ := ol
        simp only at hcl hdl
        subst hcl; subst hdl
        have hol' : (s.heap.push { cls := .type "set", dict := none, data := .set #[] 0 (.fresh 0 0 (!w.params.followText "set-order")) }).get? l = some { cls := .type "list", dict := odict, data := .seq items nl, slots := oslots } := Heap.get?_push_of_some _ hol
        have hsls := PySem.F.sub_list_set
        have hslf := PySem.F.sub_list_frozenset
        have hne : (Value.type "list" == Value.type "dict") = false := by decide
        have hl1 : (s.heap.push { cls := .type "set", dict := none, data := .set #[] 0 (.fresh 0 0 (!w.params.followText "set-order")) }).IsList l items := ⟨_, hol', rfl, nl, rfl⟩
        unfold Builtin.«set.__init__» noKeywords Builtin.Frozenset.updateFrom
        generalize hPI : pyIter = PI
        wp_walk
        subst hPI
        refine wpAny_pyIter_list hl1 ?_
        refine wpAny_bind (wpAny_runValue ?_)
        have hlS : l < s.heap.objs.size := Heap.lt_size hol
        have hh3 : A.in1.in1.in1.handled = none := by simp [hh]
        have hneI : l ≠ (s.heap.push { cls := .type "set", dict := none, data := .set #[] 0 (.fresh 0 0 (!w.params.followText "set-order")) }).objs.size := by
          rw [Heap.size_push]; exact Nat.ne_of_lt (Nat.lt_succ_of_lt hlS)
        have hSf : s.heap.objs.size ∉ [(s.heap.push { cls := .type "set", dict := none, data := .set #[] 0 (.fresh 0 0 (!w.params.followText "set-order")) }).objs.size, l] := by
          rw [Heap.size_push]; simp only [List.mem_cons, List.mem_singleton, List.not_mem_nil, or_false, not_or]
          exact ⟨Nat.ne_of_lt (Nat.lt_succ_self _), Nat.ne_of_gt hlS⟩
        have hval : ∀ (i : Nat) (v : Value), items[i]? = some v → ∃ t, v = Value.str (tS (bs.getD i [])) t := fun i v hv => by
          have q : items.toList[i]? = some v := by rw [Array.getElem?_toList]; exact hv
          obtain ⟨x, hx, rx⟩ := vals_bk hit q
          rw [List.getElem?_map] at hx
          obtain ⟨l0, hl0, rfl⟩ := Option.map_eq_some_iff.mp hx
          obtain ⟨t, rfl⟩ := rx
          exact ⟨t, by rw [List.getD_eq_getElem?_getD, hl0]; rfl⟩
        refine set_loopT ((Walks.list hh3 _ l hneI items).toS) s.heap.objs.size hSf (fun i => bs.getD i []) hval (by rw [hisz]; exact hb) (items.size - 0) 0 _ (by omega) (Nat.zero_le _)
          ⟨⟨_, Heap.get?_push_size _ rfl, rfl, rfl⟩, (hl1.push _)⟩ ((setT_fresh w).at fun o ho => Heap.get?_push_of_some _ ho) fun s' hm hS' => ?_
        obtain ⟨h', g2, d', tk', os'⟩ := s'
        have eg : g2 = s.gens := hm.gens
        have ed : d' = s.drawn := hm.drawn
        have eo : os' = s.os := hm.os
        subst eg; subst ed; subst eo
        rw [hisz] at hS'
        show wpAny _ _ _ _ _ _
        refine wpAny_pure ?_
        show wpAny _ _ (ret Value.none) _ _ _
        refine wpAny_pure ⟨rfl, h', tk', rfl, hS', fun b o e => ?_⟩
        have hlt := Heap.lt_size e
        refine hm.heap b o (fun z => ?_) (Heap.get?_push_of_some _ (Heap.get?_push_of_some _ e))
        simp only [List.mem_cons, List.not_mem_nil, or_false] at z
        rcases z with z | z
        · exact absurd z (Nat.ne_of_lt hlt)
        · rw [Heap.size_push] at z
          exact absurd z (Nat.ne_of_lt (Nat.lt_succ_of_lt hlt))
      · cases r₂ with
        | error e => exact hr₂
        | ok fl₂ =>
          cases fl₂ with
          | ret r =>
            obtain ⟨rfl, h', tk, rfl, hS', hk'⟩ := hr₂
            repeat (any_goals (first | assumption | wp_step))
            exact h _ _ hS' hk'
          | _ => exact hr₂.elim
    | _ => exact hr.elim
set_option maxHeartbeats 8000000 in
/-- set(tuple of texts) -/
theorem call_set_textsT {l : Addr} {items : Array Value} (bs : List (List Nat)) {Q : Value → Shared → Prop} (hh : A.handled = none) (hl : s.heap.IsTuple l items) (hit : Vals (bs.map tx) items.toList) (hb : bs.length + 1 < scanBound)
    (h : ∀ (h' : Heap) (tk : Nat), SetT w h' s.heap.objs.size (ded (fun i => bs.getD i []) bs.length) → (∀ b o, s.heap.get? b = some o → h'.get? b = some o) → Q (.ref s.heap.objs.size) { s with heap := h', toks := tk }) :
    wpAny (model P w) A (call (.type "set") [.ref l]) Q E s := by
  have hisz : items.size = bs.length := by
    rw [← Array.length_toList, ← hit.length, List.length_map]
  obtain ⟨c, tl, hmro⟩ := PySem.F.called_set.mro
  have hmade := PySem.F.called_set.made
  have hsub := PySem.F.called_set.sub
  refine wpAny_call (codeAny_of_tree ?_)
  show wpAny _ _ (callAny (.type "set") _) _ _ _
  refine wpAny_pure ⟨Code.quiet_builtin _ (by decide +kernel), codeAny_builtin PySem.F.entry_type_call ?_⟩
  rw [Around.under_plain (weight_type_call_type "set" [.ref l] []) rfl]
  have h1 := PySem.F.called_set.notType
  have h2 := PySem.F.called_set.canCreate
  have hct := PySem.F.typeCall_set_1 (.ref l)
  repeat (any_goals (first | assumption | wp_step))
  refine codeAny_mono (L3.code_set_led1 (.ref l) (E := E) (Q₁ := fun obj s₁ => obj = .ref s.heap.objs.size ∧ s₁ = { s with heap := s.heap.push { cls := .type "set", dict := none, data := .set #[] 0 (.fresh 0 0 (!w.params.followText "set-order")) } }) ⟨rfl, rfl⟩) fun r s₁ hr => ?_
  cases r with
  | error e => exact hr
  | ok fl =>
    cases fl with
    | ret obj =>
      obtain ⟨rfl, rfl⟩ := hr
      have hS : (s.heap.push { cls := .type "set", dict := none, data := .set #[] 0 (.fresh 0 0 (!w.params.followText "set-order")) }).get? s.heap.objs.size = some { cls := .type "set", dict := none, data := .set #[] 0 (.fresh 0 0 (!w.params.followText "set-order")) } := Heap.get?_push_size _ rfl
      have hT : Shared.TypeIs { s with heap := s.heap.push { cls := .type "set", dict := none, data := .set #[] 0 (.fresh 0 0 (!w.params.followText "set-order")) } } (.ref s.heap.objs.size) "set" := ⟨_, hS, rfl⟩
      have hli := PySem.F.called_set.init.lookup
      have hbi := PySem.F.called_set.init.bind (.ref s.heap.objs.size)
      repeat (any_goals (first | assumption | wp_step))
      refine codeAny_mono (codeAny_call_builtin (R := wants (fun r s₂ => r = .none ∧ ∃ h' tk, s₂ = { s with heap := h', toks := tk } ∧ SetT w h' s.heap.objs.size (ded (fun i => bs.getD i []) bs.length) ∧
          (∀ b o, s.heap.get? b = some o → h'.get? b = some o)) E) PySem.F.called_set.init.plain PySem.F.entry_set_init (PySem.check_set_init_1 hT ?_)) fun r₂ s₂ hr₂ => ?_
      · obtain ⟨ol, hol, hcl, nl, hdl⟩ := hl
        obtain ⟨ocls, odict, odata, oslots⟩ := ol
        simp only at hcl hdl
        subst hcl; subst hdl
        have hol' : (s.heap.push { cls := .type "set", dict := none, data := .set #[] 0 (.fresh 0 0 (!w.params.followText "set-order")) }).get? l = some { cls := .type "tuple", dict := odict, data := .seq items nl, slots := oslots } := Heap.get?_push_of_some _ hol
        have hsls := PySem.F.sub_tuple_set
        have hslf := PySem.F.sub_tuple_frozenset
        have hne : (Value.type "tuple" == Value.type "dict") = false := by decide
        have hl1 : (s.heap.push { cls := .type "set", dict := none, data := .set #[] 0 (.fresh 0 0 (!w.params.followText "set-order")) }).IsTuple l items := ⟨_, hol', rfl, nl, rfl⟩
        unfold Builtin.«set.__init__» noKeywords Builtin.Frozenset.updateFrom
        generalize hPI : pyIter = PI
        wp_walk
        subst hPI
        refine wpAny_pyIter_tuple hl1 ?_
        refine wpAny_bind (wpAny_runValue ?_)
        have hlS : l < s.heap.objs.size := Heap.lt_size hol
        have hh3 : A.in1.in1.in1.handled = none := by simp [hh]
        have hneI : l ≠ (s.heap.push { cls := .type "set", dict := none, data := .set #[] 0 (.fresh 0 0 (!w.params.followText "set-order")) }).objs.size := by
          rw [Heap.size_push]; exact Nat.ne_of_lt (Nat.lt_succ_of_lt hlS)
        have hSf : s.heap.objs.size ∉ [(s.heap.push { cls := .type "set", dict := none, data := .set #[] 0 (.fresh 0 0 (!w.params.followText "set-order")) }).objs.size, l] := by
          rw [Heap.size_push]; simp only [List.mem_cons, List.mem_singleton, List.not_mem_nil, or_false, not_or]
          exact ⟨Nat.ne_of_lt (Nat.lt_succ_self _), Nat.ne_of_gt hlS⟩
        have hval : ∀ (i : Nat) (v : Value), items[i]? = some v → ∃ t, v = Value.str (tS (bs.getD i [])) t := fun i v hv => by
          have q : items.toList[i]? = some v := by rw [Array.getElem?_toList]; exact hv
          obtain ⟨x, hx, rx⟩ := vals_bk hit q
          rw [List.getElem?_map] at hx
          obtain ⟨l0, hl0, rfl⟩ := Option.map_eq_some_iff.mp hx
          obtain ⟨t, rfl⟩ := rx
          exact ⟨t, by rw [List.getD_eq_getElem?_getD, hl0]; rfl⟩
        refine set_loopT ((Walks.tuple hh3 _ l hneI items).toS) s.heap.objs.size hSf (fun i => bs.getD i []) hval (by rw [hisz]; exact hb) (items.size - 0) 0 _ (by omega) (Nat.zero_le _)
          ⟨⟨_, Heap.get?_push_size _ rfl, rfl, rfl⟩, (hl1.push _)⟩ ((setT_fresh w).at fun o ho => Heap.get?_push_of_some _ ho) fun s' hm hS' => ?_
        obtain ⟨h', g2, d', tk', os'⟩ := s'
        have eg : g2 = s.gens := hm.gens
        have ed : d' = s.drawn := hm.drawn
        have eo : os' = s.os := hm.os
        subst eg; subst ed; subst eo
        rw [hisz] at hS'
        show wpAny _ _ _ _ _ _
        refine wpAny_pure ?_
        show wpAny _ _ (ret Value.none) _ _ _
        refine wpAny_pure ⟨rfl, h', tk', rfl, hS', fun b o e => ?_⟩
        have hlt := Heap.lt_size e
        refine hm.heap b o (fun z => ?_) (Heap.get?_push_of_some _ (Heap.get?_push_of_some _ e))
        simp only [List.mem_cons, List.not_mem_nil, or_false] at z
        rcases z with z | z
        · exact absurd z (Nat.ne_of_lt hlt)
        · rw [Heap.size_push] at z
          exact absurd z (Nat.ne_of_lt (Nat.lt_succ_of_lt hlt))
      · cases r₂ with
        | error e => exact hr₂
        | ok fl₂ =>
          cases fl₂ with
          | ret r =>
            obtain ⟨rfl, h', tk, rfl, hS', hk'⟩ := hr₂
            repeat (any_goals (first | assumption | wp_step))
            exact h _ _ hS' hk'
          | _ => exact hr₂.elim
    | _ => exact hr.elim
end
/-- the texts of a list, each once -/
def txs (ls : List (List Nat)) : List (List Nat) := ded (fun i => ls.getD i []) ls.length
theorem txs_mem {ls : List (List Nat)} {x : List Nat} : x ∈ txs ls ↔ x ∈ ls := by
  unfold txs
  rw [ded_mem]
  constructor
  · rintro ⟨j, hj, rfl⟩
    rw [List.getD_eq_getElem?_getD, List.getElem?_eq_getElem hj]
    exact List.getElem_mem hj
  · intro h
    obtain ⟨j, hj, rfl⟩ := List.getElem_of_mem h
    exact ⟨j, hj, by rw [List.getD_eq_getElem?_getD, List.getElem?_eq_getElem hj]; rfl⟩
end L3
namespace L3
open PySem PySem.Spec PyProof.Rows L2
section
variable {X : Cx}
/-- set(list or tuple of texts) -/
theorem cr_setTs (hc : X.calm = true) : CallR X (.type "set") (fun xs H Q => ∃ (v : V) (ls : List (List Nat)), xs = [v] ∧ Sq X.K H v (ls.map tx) ∧ ls.length ≤ 4000 ∧ ∀ p, H p = none → Q (.ref p) (upd H p (TSet X.w p (txs ls)))) := by
  intro pins s σ H xs us Q I r h
  obtain ⟨v, ls, rfl, hl, hz, q⟩ := h
  obtain ⟨l, rfl, hl⟩ := hl
  rw [Vals.ref1 r]
  rcases hl with hl | hl
  · obtain ⟨its, rv, pl, _⟩ := I.list hl
    refine call_set_texts (P := X.prog) (w := X.w) ls (I.ok.hd hc) pl.isList (by simpa using rv) (by unfold scanBound; omega) fun h' tk hS hk => ?_
    exact ⟨.ref _, _, I.laid (t' := tk) (fun b o e => hk b o e) (Nat.le_refl _) (tset_new hS), rfl, q _ (I.hok.fresh (Nat.le_refl _))⟩
  · obtain ⟨its, rv, pl, _⟩ := I.tuple hl
    refine call_set_textsT (P := X.prog) (w := X.w) ls (I.ok.hd hc) pl (by simpa using rv) (by unfold scanBound; omega) fun h' tk hS hk => ?_
    exact ⟨.ref _, _, I.laid (t' := tk) (fun b o e => hk b o e) (Nat.le_refl _) (tset_new hS), rfl, q _ (I.hok.fresh (Nat.le_refl _))⟩
end
end L3
namespace L3
open PySem PySem.Spec PyProof.Rows L2 LamX
/-- the cells of the maker X, as they stood at the slots σ -/
structure CellsZ (X : Cx) (σ : L2.St) (l : List Addr) (H : Hp) : Prop where
  inj : ∀ y z c, X.env.cells.lookup y = some c → X.env.cells.lookup z = some c → y = z
  has : ∀ y, (X.env.scope.names.lookup y = some .cell ∨ X.env.scope.names.lookup y = some .free) → ∃ c, X.env.cells.lookup y = some c
  all : ∀ y c, X.env.cells.lookup y = some c → c ∈ l ∧ ∃ o v, H c = some (.frz o (.own 0)) ∧ o.data = .cell v
  val : ∀ (i : Nat) (y : Str) (v : V) (c : Addr), X.N[i]? = some y → σ[i]? = some (some v) → (X.env.scope.names.lookup y = some .cell ∨ X.env.scope.names.lookup y = some .free) → X.env.cells.lookup y = some c → ∃ o u, H c = some (.frz o (.own 0)) ∧ o.data = .cell (some u) ∧ RelV v u
  len : σ.length = X.N.length
  sub : ∀ c ∈ l, ∃ o, H c = some (.frz o (.own 0))
theorem CellsZ.ext {X : Cx} {σ : L2.St} {l : List Addr} {H H' : Hp} (c : CellsZ X σ l H) (e : ExtN H H') : CellsZ X σ l H' := by
  have q : ∀ b o, H b = some (.frz o (.own 0)) → H' b = some (.frz o (.own 0)) := fun b o h => e b _ h fun ps z => by cases z
  refine ⟨c.inj, c.has, fun y d hd => ?_, fun i y v d h1 h2 h3 h4 => ?_, c.len, fun d hd => ?_⟩
  · obtain ⟨h1, o, v, h2, h3⟩ := c.all y d hd
    exact ⟨h1, o, v, q _ _ h2, h3⟩
  · obtain ⟨o, u, a1, a2, a3⟩ := c.val i y v d h1 h2 h3 h4
    exact ⟨o, u, q _ _ a1, a2, a3⟩
  · obtain ⟨o, e⟩ := c.sub d hd
    exact ⟨o, q _ _ e⟩
/-- a lambda that X made -/
def LamAt (X : Cx) (scope : Scope) (params : Arguments) (body : Expr) (f c' : Addr) (H : Hp) : Prop :=
  (∃ pm ctv, H f = some (.frz (PySem.W.kla_obj "<lambda>" (X.env.qual ++ "<lambda>") params body scope (cloFrom X.env.cells scope.names []) pm c' ctv) (.own 0))) ∧ H c' = some (CodeO c' (X.env.qual ++ "<lambda>"))
theorem LamAt.ext {X : Cx} {scope : Scope} {params : Arguments} {body : Expr} {f c' : Addr} {H H' : Hp} (L : LamAt X scope params body f c' H) (e : ExtN H H') : LamAt X scope params body f c' H' := by
  obtain ⟨⟨pm, ctv, h⟩, h2⟩ := L
  exact ⟨⟨pm, ctv, e _ _ h fun ps z => by cases z⟩, e _ _ h2 fun ps z => codeO_ne ps z⟩
/-- a function that is known -/
def KnO (f : Addr) (H : Hp) : Prop := ∃ (q : Str) (params : Arguments) (body : Expr) (scope : Scope) (cl : List (Str × Addr)) (pm : Value) (c' : Addr) (ctv : Value), H f = some (.frz (PySem.W.kla_obj "<lambda>" q params body scope cl pm c' ctv) (.own 0))
theorem KnO.ext {f : Addr} {H H' : Hp} (F : KnO f H) (e : ExtN H H') : KnO f H' := by
  obtain ⟨q, params, body, scope, cl, pm, c', ctv, h⟩ := F
  exact ⟨q, params, body, scope, cl, pm, c', ctv, e _ _ h fun ps z => by cases z⟩
theorem LamAt.fn {X : Cx} {scope : Scope} {params : Arguments} {body : Expr} {f c' : Addr} {H : Hp} (L : LamAt X scope params body f c' H) : KnO f H := by
  obtain ⟨⟨pm, ctv, h⟩, _⟩ := L
  exact ⟨_, _, _, _, _, _, _, _, h⟩
end L3
namespace L3
open PySem PySem.Spec PyProof.Rows L2
open Sem (wp)
/-- an entry: what the key is, the key, the value -/
abbrev NE := NestedKey × Value × Value
def nE (w : World) (x : NE) : DictEntry := ⟨x.1.hash w, x.2.1, x.2.2⟩
def KeysAre (h : Heap) (xs : List NE) : Prop := ∀ x ∈ xs, NestedIs h x.1 x.2.1 ∧ x.1.depth ≤ 8
def MixRaw (w : World) (h : Heap) (d : Addr) (xs : List NE) : Prop :=
  ∃ o es ep, h.get? d = some o ∧ o.ExactDict ∧ o.data = .dict es ep ∧ es.toList = xs.map (nE w) ∧ (xs.map (·.1)).Nodup
section
variable {prog : Program} {w : World} {A : Around} {E : Value → Shared → Prop} {s : Shared}
theorem nE_at {es : Array DictEntry} {xs : List NE} (he : es.toList = xs.map (nE w)) (j : Nat) : es[j]? = (xs[j]?).map (nE w) := by
  rw [← Array.getElem?_toList, he, List.getElem?_map]
theorem nE_size {es : Array DictEntry} {xs : List NE} (he : es.toList = xs.map (nE w)) : es.size = xs.length := by
  rw [← Array.length_toList, he, List.length_map]
/-- the places at which the key stands: one at most -/
theorem key_once {xs : List NE} (hn : (xs.map (·.1)).Nodup) {i j : Nat} {x y : NE} (hi : xs[i]? = some x) (hj : xs[j]? = some y) (e : x.1 = y.1) : i = j := by
  have hi' : (xs.map (·.1))[i]? = some x.1 := by rw [List.getElem?_map, hi]; rfl
  have hj' : (xs.map (·.1))[j]? = some x.1 := by rw [List.getElem?_map, hj, e]; rfl
  exact (List.getElem?_inj (List.getElem?_eq_some_iff.mp hi').1 hn).mp (hi'.trans hj'.symm)
def hasK (xs : List NE) (k : NestedKey) (i : Nat) : Bool := (xs[i]?.map fun x => decide (x.1 = k)).getD false
theorem hasK_iff {xs : List NE} {k : NestedKey} {i : Nat} : hasK xs k i = true ↔ ∃ p, xs[i]? = some (k, p) := by
  unfold hasK
  cases e : xs[i]? with
  | none => simp
  | some x =>
    obtain ⟨a, b⟩ := x
    simp
/-- what is found among the places of the key's hash -/
theorem found_places {es : Array DictEntry} {xs : List NE} {k : NestedKey} (he : es.toList = xs.map (nE w)) (hn : (xs.map (·.1)).Nodup) {Q : Option Nat → Prop}
    (h0 : (∀ x ∈ xs, x.1 ≠ k) → Q none) (h1 : ∀ j p, xs[j]? = some (k, p) → Q (some j)) : Q ((placesWithHash es.size (fun i => es[i]?.map (·.hash)) (k.hash w)).find? (hasK xs k)) := by
  cases e : (placesWithHash es.size (fun i => es[i]?.map (·.hash)) (k.hash w)).find? (hasK xs k) with
  | some j =>
    obtain ⟨p, hp⟩ := hasK_iff.mp (List.find?_some e)
    exact h1 j p hp
  | none =>
    refine h0 fun x hx ek => ?_
    obtain ⟨j, hj⟩ := List.mem_iff_getElem?.mp hx
    have hm : j ∈ placesWithHash es.size (fun i => es[i]?.map (·.hash)) (k.hash w) := by
      rw [placesWithHash, List.mem_filter, List.mem_range]
      refine ⟨by rw [nE_size he]; exact (List.getElem?_eq_some_iff.mp hj).1, ?_⟩
      rw [nE_at he, hj, ← ek]
      simp [nE]
    refine (List.find?_eq_none.mp e j hm) (hasK_iff.mpr ⟨x.2, ?_⟩)
    rw [hj, ← ek]
theorem eq_one {A : Around} {s : Shared} {a b : NestedKey} {u v : Value} {Q : Bool → Shared → Prop} (hu : A.units + 8 < cLine) (hd : b.depth ≤ 8) (h1 : NestedIs s.heap a u) (h2 : NestedIs s.heap b v) (h : Q (decide (a = b)) s) :
    wpAny (model prog w) A (PySem.eqBool u v) Q E s :=
  eqAt_key a b A s u v h1 h2 (by omega) prog w E Q (NestedKey.decide_eq a b ▸ h)
theorem mix_tells {k : NestedKey} {key : Value} {stored : List Value} {Q : Bool → Shared → Prop} (hk : NestedIs s.heap k key) (hd : k.depth ≤ 8)
    (hst : ∀ v ∈ stored, ∃ k' : NestedKey, NestedIs s.heap k' v ∧ k'.depth ≤ 8) (h : Q false s) : wpAny (model prog w) A (tableMayTell key stored) Q E s := by
  unfold tableMayTell
  split
  · exact wpAny_pure h
  · refine wpAny_bind (quiet_key k key 8 s hk hd A E _ ?_)
    simp only [Bool.not_true, Bool.false_eq_true, if_false]
    refine wpAny_bind ?_
    refine wpAny_forIn_list _ (fun rest r s' => s' = s ∧ r = (none, ()) ∧ ∀ v ∈ rest, ∃ k' : NestedKey, NestedIs s.heap k' v ∧ k'.depth ≤ 8) _ ?_ ?_ _ _ ⟨rfl, rfl, hst⟩
    · rintro x rest r s' ⟨rfl, rfl, hr⟩
      obtain ⟨k', hb, hb8⟩ := hr x List.mem_cons_self
      refine wpAny_bind (quiet_key k' x 8 s' hb hb8 A E _ ?_)
      simp only [Bool.not_true, Bool.false_eq_true, if_false]
      exact wpAny_pure ⟨rfl, rfl, fun v hv => hr v (List.mem_cons_of_mem _ hv)⟩
    · rintro r s' ⟨rfl, rfl, _⟩
      exact wpAny_pure h
/-- the walk where all that is asked is carried by value -/
theorem mix_plain {d : Addr} {o : Obj} {es : Array DictEntry} {ep : Nat} {xs : List NE} {k : NestedKey} {key : Value} {hh : Int} {ps : List Nat} {Q : Option Nat → Shared → Prop} (hu : A.units + 8 < cLine) (hk : NestedIs s.heap k key) (hd8 : k.depth ≤ 8)
    (ho : s.heap.get? d = some o) (hd : o.data = .dict es ep) (he : es.toList = xs.map (nE w)) (hx : KeysAre s.heap xs) (hp : ∀ i ∈ ps, (es[i]?.map (·.hash)) = some hh) (h : Q (ps.find? (hasK xs k)) s) :
    wpAny (model prog w) A (dictWalkPlain d key hh es ps) Q E s := by
  unfold dictWalkPlain
  refine wpAny_bind ?_
  refine wpAny_forIn_list _ (fun rest b s' => s' = s ∧ b = (none, ()) ∧ ps.find? (hasK xs k) = rest.find? (hasK xs k) ∧ ∀ i ∈ rest, i ∈ ps) _ ?_ ?_ _ _ ⟨rfl, rfl, rfl, fun _ q => q⟩
  · rintro i rest b s' ⟨rfl, rfl, e, sub⟩
    have hi := hp i (sub i List.mem_cons_self)
    cases hxi : xs[i]? with
    | none => rw [nE_at he, hxi] at hi; cases hi
    | some x =>
      have hei : es[i]? = some (nE w x) := by rw [nE_at he, hxi]; rfl
      rw [hei] at hi
      have hih : (nE w x).hash = hh := by simpa using hi
      rw [hei]
      dsimp only
      rw [if_pos (by rw [hih]; simp)]
      refine wpAny_bind (wpAny_dictEpoch ho hd (wpAny_bind (eq_one (a := x.1) (b := k) hu hd8 (hx x (List.mem_of_getElem? hxi)).1 hk (wpAny_bind (wpAny_dictEpoch ho hd ?_)))))
      show wpAny _ _ (if (ep != ep) = true then _ else _) _ E _
      rw [if_neg (by simp)]
      have eh : hasK xs k i = decide (x.1 = k) := by unfold hasK; rw [hxi]; rfl
      by_cases hkk : x.1 = k
      · rw [decide_eq_true hkk]
        rw [e, List.find?_cons, eh, decide_eq_true hkk] at h
        exact wpAny_bind (wpAny_rule (wpAny_pure (wpAny_pure h)))
      · rw [decide_eq_false hkk]
        rw [List.find?_cons, eh, decide_eq_false hkk] at e
        exact wpAny_bind (wpAny_rule (wpAny_pure ⟨rfl, rfl, e, fun j q => sub j (List.mem_cons_of_mem _ q)⟩))
  · rintro b s' ⟨rfl, rfl, e, _⟩
    rw [e] at h
    exact wpAny_pure h
theorem places_hash {es : Array DictEntry} {h : Int} : ∀ i ∈ placesWithHash es.size (fun i => es[i]?.map (·.hash)) h, (es[i]?.map (·.hash)) = some h := by
  intro i hi
  rw [placesWithHash, List.mem_filter] at hi
  simpa using hi.2
theorem places_nodup {n : Nat} {f : Nat → Option Int} {h : Int} : (placesWithHash n f h).Nodup := by
  rw [placesWithHash]
  exact List.nodup_range.sublist List.filter_sublist
theorem mix_find {d : Addr} {o : Obj} {es : Array DictEntry} {ep : Nat} {xs : List NE} {k : NestedKey} {key : Value} {Q : Option Nat → Shared → Prop} (hu : A.units + 8 < cLine) (hk : NestedIs s.heap k key) (hd8 : k.depth ≤ 8)
    (ho : s.heap.get? d = some o) (hd : o.data = .dict es ep) (he : es.toList = xs.map (nE w)) (hx : KeysAre s.heap xs) (hn : (xs.map (·.1)).Nodup)
    (h0 : (∀ x ∈ xs, x.1 ≠ k) → Q none s) (h1 : ∀ j p, xs[j]? = some (k, p) → Q (some j) s) : wpAny (model prog w) A (dictFind d key (k.hash w)) Q E s := by
  have hQ := found_places (w := w) he hn (Q := fun r => Q r s) h0 h1
  by_cases hs : (∃ x t, key = .str x t) ∧ (es.all fun e => isExactStrKey e.key) = true
  · obtain ⟨⟨x, t, rfl⟩, hall⟩ := hs
    cases hk
    refine KTD.kt_dictFind_strs ho hd hall ?_
    have hkey : ∀ (i : Nat) (y : NE), xs[i]? = some y → ((y.2.1.isStr x = true) ↔ y.1 = NestedKey.text x) := fun i y hy => by
      obtain ⟨hi, _⟩ := hx y (List.mem_of_getElem? hy)
      obtain ⟨yk, yv, yw⟩ := y
      have hex : isExactStrKey yv = true := by
        have hei : es[i]? = some (nE w (yk, yv, yw)) := by rw [nE_at he, hy]; rfl
        obtain ⟨hlt, hg⟩ := Array.getElem?_eq_some_iff.mp hei
        have := Array.all_eq_true.mp hall i hlt
        rw [hg] at this
        exact this
      cases yv with
      | str z u =>
        dsimp only at hi ⊢
        cases hi
        show (z == x) = true ↔ _
        rw [beq_iff_eq]
        exact ⟨fun e => by rw [e], fun e => NestedKey.text.inj e⟩
      | _ => exact absurd hex (by simp [isExactStrKey])
    cases hf : es.findIdx? (fun e => e.key.isStr x) with
    | none =>
      refine h0 fun y hy ek => ?_
      obtain ⟨i, hi⟩ := List.mem_iff_getElem?.mp hy
      have hei : es[i]? = some (nE w y) := by rw [nE_at he, hi]; rfl
      have := Array.findIdx?_eq_none_iff.mp hf (nE w y) (Array.mem_of_getElem? hei)
      rw [show (nE w y).key = y.2.1 from rfl, (hkey i y hi).mpr ek] at this
      cases this
    | some i =>
      obtain ⟨hlt, hi, _⟩ := Array.findIdx?_eq_some_iff_getElem.mp hf
      have hlt' : i < xs.length := by rw [← nE_size he]; exact hlt
      have hy : xs[i]? = some xs[i] := List.getElem?_eq_getElem hlt'
      have hei : es[i]? = some (nE w xs[i]) := by rw [nE_at he, hy]; rfl
      rw [Array.getElem?_eq_getElem hlt] at hei
      rw [Option.some.inj hei] at hi
      have ek := (hkey i _ hy).mp hi
      exact h1 i xs[i].2 (by rw [hy, ← ek])
  · have hany : ∀ a, key = .ref a → ¬ (es.any fun e => e.key == Value.ref a && e.hash != k.hash w) = true := by
      rintro a rfl hc
      rw [← Array.any_toList, List.any_eq_true, he] at hc
      obtain ⟨e, hin, hc⟩ := hc
      obtain ⟨x, hx', rfl⟩ := List.mem_map.mp hin
      simp only [nE, Bool.and_eq_true, beq_iff_eq, bne_iff_ne, ne_eq] at hc
      have h2 := (hx x hx').1
      rw [hc.1] at h2
      exact hc.2 (by rw [NestedIs.inj _ _ _ h2 hk])
    have hst : ∀ v ∈ (placesWithHash es.size (fun i => es[i]?.map (·.hash)) (k.hash w)).filterMap (fun i => es[i]?.map (·.key)), ∃ k' : NestedKey, NestedIs s.heap k' v ∧ k'.depth ≤ 8 := by
      intro v hv
      obtain ⟨i, _, hi⟩ := List.mem_filterMap.mp hv
      rw [nE_at he] at hi
      cases hxi : xs[i]? with
      | none => rw [hxi] at hi; cases hi
      | some x =>
        rw [hxi] at hi
        obtain rfl : x.2.1 = v := by simpa [nE] using hi
        exact ⟨x.1, hx x (List.mem_of_getElem? hxi)⟩
    have hpl := mix_plain (prog := prog) (E := E) hu hk hd8 ho hd he hx (places_hash (es := es) (h := k.hash w)) hQ
    have hph := places_hash (es := es) (h := k.hash w)
    have hpn := places_nodup (n := es.size) (f := fun i => es[i]?.map (·.hash)) (h := k.hash w)
    unfold dictFind
    try with_reducible refine wpAny_holding ?_
    refine wpAny_bind (wpAny_dictEntries ho hd ?_)
    dsimp only
    have str_no : ∀ x t, key = .str x t → ¬ (es.all fun e => isExactStrKey e.key) = true := fun x t e z => hs ⟨⟨x, t, e⟩, z⟩
    have tl := mix_tells (prog := prog) (w := w) (A := A) (E := E) (Q := fun b s' => b = false ∧ s' = s) hk hd8 hst ⟨rfl, rfl⟩
    generalize placesWithHash es.size (fun i => es[i]?.map (·.hash)) (k.hash w) = ps at *
    generalize ps.filterMap (fun i => es[i]?.map (·.key)) = stored at *
    generalize (key :: stored).all carriedByValue = vb
    generalize (stored == [key]) = vo
    cases key
    all_goals try dsimp only
    all_goals try rw [if_neg (str_no _ _ rfl)]
    all_goals
      cases vb
      · rw [if_neg Bool.false_ne_true]
        try rw [if_neg (hany _ rfl)]
        have fin : ∀ (tells : Bool) (r : Option Nat), tells = false → r = ps.find? (hasK xs k) → Q r s := fun _ r _ e => e ▸ hQ
        cases vo <;> (first | rw [if_neg Bool.false_ne_true] | rw [if_pos rfl]) <;> (first | refine wpAny_bind (wpAny_pure ?_) | refine wpAny_bind (wpAny_mono tl (fun b s' hb => ?_) fun _ _ z => z)) <;> (try (obtain ⟨eb, es'⟩ := hb; subst eb; have es' := es'.symm; subst es')) <;> (
          rw [if_neg (by simp)]
          refine wpAny_bind ?_
          refine wpAny_forIn_list _ (fun rest b s' => s' = s ∧ ∃ hit, b = (none, hit) ∧ rest.Nodup ∧ (∀ i ∈ rest, i ∈ ps) ∧
            ((hit = none ∧ ps.find? (hasK xs k) = rest.find? (hasK xs k)) ∨ ∃ j, hit = some j ∧ hasK xs k j = true ∧ j ∉ rest ∧ ps.find? (hasK xs k) = some j)) _ ?_ ?_ _ _ ⟨rfl, none, rfl, hpn, fun _ q => q, .inl ⟨rfl, rfl⟩⟩
          · rintro i rest b s' ⟨rfl, hit, rfl, hnd, sub, hH⟩
            have hi := hph i (sub i List.mem_cons_self)
            have hnd' := List.nodup_cons.mp hnd
            have sub' : ∀ j ∈ rest, j ∈ ps := fun j q => sub j (List.mem_cons_of_mem _ q)
            cases hxi : xs[i]? with
            | none => rw [nE_at he, hxi] at hi; cases hi
            | some x =>
              have hei : es[i]? = some (nE w x) := by rw [nE_at he, hxi]; rfl
              rw [hei] at hi
              have hih : (nE w x).hash = k.hash w := by simpa using hi
              have eh : hasK xs k i = decide (x.1 = k) := by unfold hasK; rw [hxi]; rfl
              rw [hei]
              dsimp only
              rw [if_pos (by rw [hih]; simp)]
              refine wpAny_bind (wpAny_dictEpoch ho hd (wpAny_bind (eq_one (a := x.1) (b := k) hu hd8 (hx x (List.mem_of_getElem? hxi)).1 hk (wpAny_bind (wpAny_dictEpoch ho hd ?_)))))
              show wpAny _ _ (if (ep != ep) = true then _ else _) _ E _
              rw [if_neg (by simp)]
              by_cases hkk : x.1 = k
              · rw [decide_eq_true hkk]
                rw [decide_eq_true hkk] at eh
                rcases hH with ⟨rfl, e⟩ | ⟨j, rfl, hj, hjn, e⟩
                · rw [List.find?_cons, eh] at e
                  have e : ps.find? (hasK xs k) = some i := e
                  rw [if_pos rfl]
                  simp only [Option.isSome_none, Bool.false_eq_true, if_false]
                  refine wpAny_bind (wpAny_rule ?_)
                  split
                  · exact wpAny_pure (wpAny_pure (by rw [e] at hQ; exact hQ))
                  · exact wpAny_pure ⟨rfl, some i, rfl, hnd'.2, sub', .inr ⟨i, rfl, eh, hnd'.1, e⟩⟩
                · obtain ⟨p, hp⟩ := hasK_iff.mp hj
                  have := key_once hn hp hxi hkk.symm
                  exact absurd (this ▸ List.mem_cons_self) hjn
              · rw [decide_eq_false hkk]
                rw [decide_eq_false hkk] at eh
                simp only [Bool.false_eq_true, if_false]
                refine wpAny_bind (wpAny_rule ?_)
                have next : (hit = none ∧ ps.find? (hasK xs k) = rest.find? (hasK xs k)) ∨ ∃ j, hit = some j ∧ hasK xs k j = true ∧ j ∉ rest ∧ ps.find? (hasK xs k) = some j := by
                  rcases hH with ⟨rfl, e⟩ | ⟨j, rfl, hj, hjn, e⟩
                  · rw [List.find?_cons, eh] at e
                    exact .inl ⟨rfl, e⟩
                  · exact .inr ⟨j, rfl, hj, fun q => hjn (List.mem_cons_of_mem _ q), e⟩
                first | rw [if_neg (by simp)] | skip
                first | exact wpAny_pure ⟨rfl, hit, rfl, hnd'.2, sub', next⟩ | exact wpAny_bind (wpAny_pure (wpAny_pure ⟨rfl, hit, rfl, hnd'.2, sub', next⟩))
          · rintro b s' ⟨rfl, hit, rfl, _, _, hH⟩
            rcases hH with ⟨rfl, e⟩ | ⟨j, rfl, _, _, e⟩
            · rw [List.find?_nil] at e
              exact wpAny_pure (by rw [e] at hQ; exact hQ)
            · exact wpAny_pure (by rw [e] at hQ; exact hQ))
      · rw [if_pos rfl]
        exact hpl
end
end L3
namespace L3
open PySem PySem.Spec PyProof.Rows L2
mutual
def keyN : PyData → NestedKey
  | .none => .none
  | .bool b => .num (if b = true then 1 else 0)
  | .int i => .num i
  | .str x => .text x
  | .tuple ds => .tup (keyNs ds)
  | .list _ => .none
  | .dict _ => .none
def keyNs : List PyData → List NestedKey
  | [] => []
  | d :: ds => keyN d :: keyNs ds
end
mutual
def keyable : PyData → Bool
  | .none => true
  | .bool _ => true
  | .int _ => true
  | .str _ => true
  | .tuple ds => keyables ds
  | .list _ => false
  | .dict _ => false
def keyables : List PyData → Bool
  | [] => true
  | d :: ds => keyable d && keyables ds
end
section
variable {X : Cx} {pins : List (Addr × Obj)} {σ : L2.St} {H : Hp} {s : Shared}
mutual
theorem nested_of (I : L2.Inv X pins σ H s) : ∀ (d : PyData) (v : V) (u : Value), Dp X.K H v d → RelV v u → keyable d = true → NestedIs s.heap (keyN d) u
  | .none, _, _, h, r, _ => by
    cases h
    cases r
    exact .none
  | .bool b, _, _, h, r, _ => by
    cases h
    cases r
    exact .bool rfl
  | .int i, _, _, h, r, _ => by
    cases h
    obtain ⟨t, rfl⟩ := r
    exact .int i t
  | .str x, _, _, h, r, _ => by
    cases h
    obtain ⟨t, rfl⟩ := r
    exact .text x t
  | .list ds, _, _, _, _, k => by cases k
  | .dict ds, _, _, _, _, k => by cases k
  | .tuple ds, _, _, h, r, k => by
    cases h with
    | tup hs ha =>
      cases r
      obtain ⟨its, rv, ⟨o, ho, hc, n, hd⟩, _⟩ := I.tuple hs
      exact .tup ho hc hd (by simpa using nested_all I ds _ its ha rv k)
theorem nested_all (I : L2.Inv X pins σ H s) : ∀ (ds : List PyData) (vs : List V) (us : List Value), DpAll X.K H vs ds → Vals vs us → keyables ds = true → NestedAll s.heap (keyNs ds) us
  | [], _, _, h, r, _ => by
    cases h
    cases r
    exact .nil
  | d :: ds, _, _, h, r, k => by
    cases h with
    | cons h1 h2 =>
      cases r with
      | cons r1 r2 =>
        rw [keyables, Bool.and_eq_true] at k
        exact .cons (nested_of I d _ _ h1 r1 k.1) (nested_all I ds _ _ h2 r2 k.2)
end
end
/-- an entry: the key's data, its address, the value -/
abbrev EntN := PyData × Addr × V
def KN : List EntN → List (NestedKey × Addr × Value) → Prop := Paired fun p q => q.1 = keyN p.1 ∧ q.2.1 = p.2.1 ∧ RelV p.2.2 q.2.2
def valN (es : List EntN) (k : NestedKey) : Option V := (es.find? fun x => decide (keyN x.1 = k)).map (·.2.2)
theorem KN.val {es : List EntN} {xs : List (NestedKey × Addr × Value)} (r : KN es xs) (k : NestedKey) : RelO (valN es k) ((atKey xs k).map (·.2)) := by
  unfold KN at r
  induction r with
  | nil => exact True.intro
  | @cons p q ps qs h t ih =>
    obtain ⟨h1, _, h2⟩ := h
    by_cases e : keyN p.1 = k
    · have e' : q.1 = k := h1.trans e
      have b : atKey (q :: qs) k = some q.2 := by simp [atKey, List.find?_cons, e']
      have a : valN (p :: ps) k = some p.2.2 := by simp [valN, List.find?_cons, e]
      rw [a, b]; exact h2
    · have e' : ¬ q.1 = k := fun z => e (h1.symm.trans z)
      have b : atKey (q :: qs) k = atKey qs k := by simp [atKey, List.find?_cons, e']
      have a : valN (p :: ps) k = valN ps k := by simp [valN, List.find?_cons, e]
      rw [a, b]; exact ih
theorem KN.snoc {es : List EntN} {xs : List (NestedKey × Addr × Value)} (r : KN es xs) {p : EntN} {q : NestedKey × Addr × Value} (h : q.1 = keyN p.1 ∧ q.2.1 = p.2.1 ∧ RelV p.2.2 q.2.2) : KN (es ++ [p]) (xs ++ [q]) := Paired.snoc r h
/-- a dict with bools as keys -/
def TB (P : Program) (w : World) (a : Addr) (kvs : List (Bool × V)) : HO := .ext fun h => (a == sysModules) = false ∧ kvs.length ≤ sizeLine ∧ ∃ vs, KV kvs vs ∧ h.DictOf (PpSet.boolK P w) a vs
/-- the keys stand -/
def Keys (K : PySem.W.Frag) (H : Hp) (es : List EntN) : Prop := ∀ x ∈ es, Dp K H (.ref x.2.1) x.1 ∧ keyable x.1 = true ∧ (keyN x.1).depth ≤ 8
theorem Keys.same {K : PySem.W.Frag} {H H' : Hp} {es : List EntN} (h : Keys K H es) (s : Same H H') : Keys K H' es := fun x hx => ⟨Dp.same s (h x hx).1, (h x hx).2⟩
end L3
namespace L3
open PySem PySem.Spec PyProof.Rows L2
/-- a kind of objects that can be members of a set -/
structure SK (P : Program) (w : World) (K : Type) [DecidableEq K] where
  kd : HeapKind P w K
  ofc : ∀ {A : Around} {E : Value → Shared → Prop} {s : Shared} {k : K} {b : Addr} {Q : Bool → Shared → Prop}, kd.is s.heap k b → Q false s → wpAny (model P w) A (ofAClassStatement 8 (.ref b)) Q E s
  hbv : ∀ {A : Around} {E : Value → Shared → Prop} {s : Shared} {k : K} {b : Addr} {Q : Bool → Shared → Prop}, kd.is s.heap k b → (∀ c, Q c s) → wpAny (model P w) A (hashByValue 8 (.ref b)) Q E s
  stays : ∀ {h h' : Heap} {k : K} {b : Addr}, kd.is h k b → (∀ c o vs n, h.get? c = some o → o.data = .seq vs n → h'.get? c = some o) → kd.is h' k b
section
variable {P : Program} {w : World} {K : Type} [DecidableEq K]
/-- what the set's rows are -/
def mems (m : SK P w K) (L : List (Addr × K)) : List (Int × Value) := L.map fun p => (m.kd.hash p.2, Value.ref p.1)
def hshs (m : SK P w K) (L : List (Addr × K)) : List Int := L.map fun p => m.kd.hash p.2
/-- the set at a, with its members L in the table's order -/
structure SetM (m : SK P w K) (h : Heap) (a : Addr) (L : List (Addr × K)) (es : Array (Int × Value)) (ep : Nat) (t : SetTable) : Prop where
  obj : ∃ o, h.get? a = some o ∧ o.ExactSet ∧ o.data = .set es ep t
  row : es.toList = mems m L
  tab : TabOk t (hshs m L)
  dis : (L.map Prod.snd).Nodup
  key : ∀ p ∈ L, m.kd.is h p.2 p.1
  ord : w.params.followText "set-order" = true ∨ t.led = true
  rm : L.length * 5 < t.mask * 3
  lt : L.length < 64
variable {m : SK P w K} {A : Around} {E : Value → Shared → Prop} {s : Shared} {a : Addr} {L : List (Addr × K)} {es : Array (Int × Value)} {ep : Nat} {t : SetTable}
theorem mems_len (m : SK P w K) (L : List (Addr × K)) : (mems m L).length = L.length := by unfold mems; rw [List.length_map]
theorem hshs_len (m : SK P w K) (L : List (Addr × K)) : (hshs m L).length = L.length := by unfold hshs; rw [List.length_map]
theorem rows_size (h : es.toList = mems m L) : es.size = L.length := by rw [← Array.length_toList, h, mems_len]
theorem rows_at (h : es.toList = mems m L) {i : Nat} {p : Addr × K} (e : L[i]? = some p) : es[i]? = some (m.kd.hash p.2, Value.ref p.1) := by
  rw [← Array.getElem?_toList, h, mems, List.getElem?_map, e, Option.map_some]
theorem SetM.fits (R : SetM m s.heap a L es ep t) : t.fits es.size = true := by
  have z := R.tab.sz
  rw [hshs_len] at z
  have q := rows_size R.row
  have u := R.rm
  simp only [SetTable.fits, SetTable.fill, R.tab.dm, Bool.and_eq_true, beq_iff_eq, decide_eq_true_eq]
  exact ⟨by omega, by show t.place.size + 0 ≤ t.mask; omega⟩
theorem odd_mask (R : SetM m s.heap a L es ep t) : ¬ t.gaveWay = true := by
  unfold SetTable.gaveWay
  rw [mask_odd R.tab.mok]
  decide
/-- nobody sees a search among such members -/
theorem unseen {x : Addr} {k : K} {Q : Bool → Shared → Prop} (hx : m.kd.is s.heap k x) : ∀ {ys : List Value}, (∀ y ∈ ys, ∃ c k', y = Value.ref c ∧ m.kd.is s.heap k' c) → Q false s → wpAny (model P w) A (searchCouldBeSeen (.ref x) ys) Q E s := by
  intro ys hy q
  unfold searchCouldBeSeen
  refine wpAny_bind (wpAny_forIn_list _ (fun rest r s' => r.1 = none ∧ s' = s ∧ ∀ y ∈ rest, ∃ c k', y = Value.ref c ∧ m.kd.is s.heap k' c) _ (fun v rest r s' i => ?_) (fun r s' i => ?_) _ _ ⟨rfl, rfl, hy⟩)
  · obtain ⟨_, rfl, al⟩ := i
    obtain ⟨c, k', rfl, hc⟩ := al v List.mem_cons_self
    have next := fun u hu => al u (List.mem_cons_of_mem _ hu)
    dsimp only
    by_cases hv : (x == c || (carriedByValue (.ref x) && carriedByValue (.ref c))) = true
    · exact wp_if_pos hv (wpAny_pure ⟨rfl, rfl, next⟩)
    · refine wp_if_neg hv (wpAny_bind (m.kd.quiet hx ?_))
      simp only [Bool.not_true, Bool.false_eq_true, if_false]
      refine wpAny_bind (m.kd.quiet hc ?_)
      simp only [Bool.not_true, Bool.false_eq_true, if_false]
      refine wpAny_bind (m.ofc hx ?_)
      simp only [Bool.false_eq_true, if_false]
      refine wpAny_bind (m.ofc hc ?_)
      simp only [Bool.false_eq_true, if_false]
      exact wpAny_pure ⟨rfl, rfl, next⟩
  · obtain ⟨hr, rfl, _⟩ := i
    obtain ⟨r1, r2⟩ := r
    dsimp only at hr
    subst hr
    exact wpAny_pure q
/-- the c-th step of the way of a hash -/
abbrev stp (t : SetTable) (h : Int) (c : Nat) : SetTable.Probe := nth t.mask (runAt t.mask (SetTable.bits h % (t.mask + 1)) (SetTable.bits h)) c
theorem stp_add (t : SetTable) (h : Int) (c q : Nat) : nth t.mask (stp t h c) q = stp t h (c + q) := (nth_add t.mask c _ q).symm
theorem nth_clean {k : Nat} : ∀ (n : Nat) (p : SetTable.Probe), p.dummy = none → (nth k p n).dummy = none
  | 0, _, e => e
  | n + 1, p, e => nth_clean n (adv k p) (by unfold adv; split <;> exact e)
theorem stp_clean (t : SetTable) (h : Int) (c : Nat) : (stp t h c).dummy = none := by
  exact nth_clean c _ rfl
/-- THE SEARCH for k, from step c on -/
theorem look_from (R : SetM m s.heap a L es ep t) {x : Addr} {k : K} (hx : m.kd.is s.heap k x) (hu : m.kd.room A) {N : Nat} (hN : N < 10 * SetTable.turns t.mask) (hfree : way t.mask (m.kd.hash k) N ∉ t.place.toList)
    (hfull : ∀ c, c < N → way t.mask (m.kd.hash k) c ∈ t.place.toList) {Q : SetFound → Shared → Prop} (q1 : k ∈ L.map Prod.snd → Q (.there none) s) (q2 : k ∉ L.map Prod.snd → Q (.free (way t.mask (m.kd.hash k) N) false) s) :
    ∀ (f c : Nat) (st : Option SetTable.Probe), st.getD (t.probeStart (m.kd.hash k)) = stp t (m.kd.hash k) c → c ≤ N → N - c < f →
      (∀ (i : Nat) p, L[i]? = some p → p.2 = k → ∃ d, c ≤ d ∧ d < N ∧ t.place.toList[i]? = some (way t.mask (m.kd.hash k) d)) →
      wpAny (model P w) A (setSearchFrom a (.ref x) (m.kd.hash k) true f st) Q E s
  | 0, _, _, _, _, z, _ => absurd z (Nat.not_lt_zero _)
  | f + 1, c, st, hst, hc, hf, hre => by
    obtain ⟨o, ho, hex, hd⟩ := R.obj
    have hL : ∀ {i : Nat} {p : Addr × K}, L[i]? = some p → ((fun i => (es[i]?.map (·.1)).getD 0) i : Int) = m.kd.hash p.2 := fun {i p} e => by
      show (es[i]?.map (·.1)).getD 0 = _
      rw [rows_at R.row e]
      rfl
    have hj : ∀ q, (nth t.mask (stp t (m.kd.hash k) c) q).j = way t.mask (m.kd.hash k) (c + q) := fun q => congrArg SetTable.Probe.j (stp_add t (m.kd.hash k) c q)
    have found := go_spec t R.tab.ris R.tab.dm (fun i => (es[i]?.map (·.1)).getD 0) (m.kd.hash k) (10 * SetTable.turns t.mask) (N - c) (stp t (m.kd.hash k) c) (stp_clean t _ c) (by omega)
      (fun q hq => by rw [hj]; exact hfull _ (by omega)) (by rw [hj, Nat.add_sub_cancel' hc]; exact hfree)
    rw [setSearchFrom_succ]
    refine wpAny_bind (wpAny_setState_of ho hd R.fits ?_)
    dsimp only
    refine wp_if_neg (odd_mask R) ?_
    try refine wpAny_bind (wpAny_pure ?_)
    rcases found with ⟨q, i, hq, hi, _, before, pr⟩ | ⟨none_eq, pr⟩
    · have pr' : t.probe (fun i => (es[i]?.map (·.1)).getD 0) (m.kd.hash k) (st.getD (t.probeStart (m.kd.hash k))) = some (.candidate (way t.mask (m.kd.hash k) (c + q)) i (stp t (m.kd.hash k) (c + (q + 1)))) := by
        rw [hst, ← hj, ← stp_add]
        exact pr
      rw [hj] at hi
      rw [pr']
      dsimp only
      obtain ⟨p, hp⟩ : ∃ p, L[i]? = some p := by
        have z1 := (List.getElem?_eq_some_iff.mp hi).1
        have z2 := R.tab.sz
        rw [hshs_len] at z2
        rw [Array.length_toList] at z1
        exact ⟨_, List.getElem?_eq_getElem (by omega)⟩
      have hpm := List.mem_of_getElem? hp
      have hslot : t.slot (way t.mask (m.kd.hash k) (c + q)) = .live i := slot_live R.tab.ris hi
      have behind : wpAny (model P w) A (searchRest a (.ref x) (m.kd.hash k) true f es t (way t.mask (m.kd.hash k) (c + q)) i (stp t (m.kd.hash k) (c + (q + 1)))) Q E s := by
        unfold searchRest
        rw [rows_at R.row hp]
        dsimp only
        refine wpAny_bind (wpAny_holding (m.kd.eqBool hu (R.key p hpm) hx ?_))
        refine wpAny_bind (wpAny_setState_of ho hd R.fits ?_)
        dsimp only
        by_cases e : p.2 = k
        · exact wp_if_pos (by simp [e]) (wpAny_pure (q1 (List.mem_map.mpr ⟨p, hpm, e⟩)))
        · refine wp_if_neg (by simp [e]) ?_
          try refine wpAny_bind (wpAny_pure ?_)
          rw [sameMem]
          dsimp only
          simp only [if_true, hslot, rows_at R.row hp]
          refine wpAny_bind (wpAny_isSame_ref_self (wpAny_bind (wpAny_pure ?_)))
          simp only [if_true]
          refine wp_if_neg (by simp [e]) (look_from R hx hu hN hfree hfull q1 q2 f (c + (q + 1)) _ rfl (by omega) (by omega) fun j r hr er => ?_)
          obtain ⟨d, d1, d2, d3⟩ := hre j r hr er
          refine ⟨d, Classical.byContradiction fun z => ?_, d2, d3⟩
          by_cases hd' : d = c + q
          · rw [hd'] at d3
            have := slot_live R.tab.ris d3
            rw [hslot] at this
            injection this with this
            rw [← this, hp] at hr
            exact e (by rw [Option.some.inj hr]; exact er)
          · refine before (d - c) j (by omega) (by rw [hj, Nat.add_sub_cancel' d1]; exact d3) ?_
            exact (hL hr).trans (congrArg m.kd.hash er)
      by_cases hl : t.led = true
      · refine wp_if_neg (by simp [hl]) ?_
        try refine wpAny_bind (wpAny_pure ?_)
        exact behind
      · refine wp_if_pos (by simp [hl]) (wpAny_bind (unseen hx (fun y hy => ?_) ?_))
        · obtain ⟨u, hu1, rfl⟩ := List.mem_map.mp hy
          have hu2 : u ∈ es.toList := by
            have := hu1
            simp only [Array.mem_toList_iff, Array.mem_filter] at this
            exact Array.mem_toList_iff.mpr this.1
          rw [R.row] at hu2
          obtain ⟨r, hr, rfl⟩ := List.mem_map.mp hu2
          exact ⟨r.1, r.2, rfl, R.key r hr⟩
        · refine wp_if_neg (by decide) ?_
          try refine wpAny_bind (wpAny_pure ?_)
          exact behind
    · have pr' : t.probe (fun i => (es[i]?.map (·.1)).getD 0) (m.kd.hash k) (st.getD (t.probeStart (m.kd.hash k))) = some (.empty (way t.mask (m.kd.hash k) N) none) := by
        have e : way t.mask (m.kd.hash k) N = (nth t.mask (stp t (m.kd.hash k) c) (N - c)).j := by rw [hj, Nat.add_sub_cancel' hc]
        rw [hst, e]
        exact pr
      rw [pr']
      dsimp only
      refine wpAny_pure (q2 fun hm => ?_)
      obtain ⟨r, hr, er⟩ := List.mem_map.mp hm
      obtain ⟨j, hj'⟩ := List.mem_iff_getElem?.mp hr
      obtain ⟨d, d1, d2, d3⟩ := hre j r hj' er
      refine none_eq (d - c) j (by omega) (by rw [hj, Nat.add_sub_cancel' d1]; exact d3) ?_
      exact (hL hj').trans (congrArg m.kd.hash er)
/-- the search, whole -/
theorem look (R : SetM m s.heap a L es ep t) {x : Addr} {k : K} (hx : m.kd.is s.heap k x) (hu : m.kd.room A) {Q : SetFound → Shared → Prop} (q1 : k ∈ L.map Prod.snd → Q (.there none) s)
    (q2 : ∀ N, k ∉ L.map Prod.snd → way t.mask (m.kd.hash k) N ∉ t.place.toList → (∀ c, c < N → way t.mask (m.kd.hash k) c ∈ t.place.toList) → Q (.free (way t.mask (m.kd.hash k) N) false) s) :
    wpAny (model P w) A (setSearch a (.ref x) (m.kd.hash k) true) Q E s := by
  have room := R.rm
  obtain ⟨N, n1, n2, n3⟩ := R.tab.first (by rw [hshs_len]; omega) (m.kd.hash k)
  have big : 10 * SetTable.turns t.mask ≤ 1420 := by
    unfold SetTable.turns
    rcases R.tab.mok with e | e | e <;> omega
  unfold setSearch
  refine look_from R hx hu n1 n2 n3 q1 (fun z => q2 N z n2 n3) 100000 0 none rfl (Nat.zero_le _) (by omega) fun i p hp e => ?_
  have hh : (hshs m L)[i]? = some (m.kd.hash k) := by unfold hshs; rw [List.getElem?_map, hp, Option.map_some, e]
  have hi : i < t.place.toList.length := by
    have z1 := (List.getElem?_eq_some_iff.mp hp).1
    have z2 := R.tab.sz
    rw [hshs_len] at z2
    rw [Array.length_toList]
    omega
  obtain ⟨d, d1, d2⟩ := R.tab.before n2 hh (List.getElem?_eq_getElem hi)
  exact ⟨d, Nat.zero_le _, d1, by rw [List.getElem?_eq_getElem hi, d2]⟩
end
section
variable {P : Program} {w : World} {K : Type} [DecidableEq K]
/-- what has come of the first i -/
structure From (bs : List (Addr × K)) (i : Nat) (L : List (Addr × K)) : Prop where
  sub : ∀ p ∈ L, p ∈ bs
  all : ∀ p ∈ bs.take i, p.2 ∈ L.map Prod.snd
  len : L.length ≤ i
theorem From.nil (bs : List (Addr × K)) : From bs 0 [] := ⟨(fun p h => by cases h), (fun p h => by simp at h), Nat.le_refl _⟩
variable {m : SK P w K} {A : Around}
theorem SetM.keep {h h' : Heap} {a : Addr} {L : List (Addr × K)} {es : Array (Int × Value)} {ep : Nat} {t : SetTable} (R : SetM m h a L es ep t) (ha : ∀ o, h.get? a = some o → h'.get? a = some o) (hk : ∀ p ∈ L, m.kd.is h' p.2 p.1) : SetM m h' a L es ep t :=
  ⟨let ⟨o, ho, r⟩ := R.obj; ⟨o, ha o ho, r⟩, R.row, R.tab, R.dis, hk, R.ord, R.rm, R.lt⟩
variable {R : Result → Shared → Prop} {I : Addr} {fp wr : List Addr} {G : Array GenState → Array GenState → Prop} {n : Nat} {Pv : Nat → Value → Prop} {St : Nat → Shared → Prop}
variable {E : Value → Shared → Prop} {s : Shared}
end
end L3
namespace L3
open PySem PySem.Spec PyProof.Rows PySem.W PySem.Calls PySem.SeqAt
end L3
namespace L3
open PySem PySem.Spec PyProof.Rows L2
open PySem.W (EachIs AllAlike dataLe alike dataLt)
section
variable {P : Program} {w : World} {A : Around} {E : Value → Shared → Prop} {s : Shared}
theorem strs_are {k : List Str} {vs : List Value} (h : ItemsAre (PySem.strKind P w) k vs) : ∀ v ∈ vs, ∃ x t, v = Value.str x t := by
  induction h with
  | nil => intro v hv; cases hv
  | @cons x u ks us h1 _ ih =>
    intro v hv
    rcases List.mem_cons.mp hv with rfl | hv
    · obtain ⟨t, e⟩ := Value.isStrOf_shape h1
      exact ⟨x, t, e⟩
    · exact ih v hv
theorem str_noclass (n : Nat) (x : Str) (t : Tok) : ofAClassStatement n (.str x t) = pure false := by cases n <;> rfl
theorem str_byvalue (n : Nat) (x : Str) (t : Tok) : hashByValue n (.str x t) = pure false := by cases n <;> rfl
theorem tup_noclass {k : List Str} {b : Addr} {Q : Bool → Shared → Prop} (hk : IsTupleKey (PySem.strKind P w) s.heap k b) (q : Q false s) : wpAny (model P w) A (ofAClassStatement 8 (.ref b)) Q E s := by
  have ty := hk.typeIs
  obtain ⟨o, its, n, ho, _, hd, hi⟩ := hk
  unfold ofAClassStatement
  refine wpAny_bind (wpAny_typeOf ty ?_)
  dsimp only
  simp only [show (("tuple" : String) == "tuple") = true by decide, if_true, Bool.not_true, Bool.false_eq_true, if_false]
  try refine wpAny_bind (wpAny_pure ?_)
  try simp only [Bool.not_true, Bool.false_eq_true, if_false]
  show wpAny _ _ (seqItems? (.ref b) >>= _) _ _ s
  refine wpAny_bind (wpAny_seqItems ho hd ?_)
  dsimp only
  refine wpAny_bind ?_
  show wpAny _ _ (forIn its _ _) _ _ s
  rw [← Array.forIn_toList]
  refine wpAny_forIn_list _ (fun l r s' => r.1 = none ∧ s' = s ∧ ∀ v ∈ l, ∃ x t, v = Value.str x t) _ (fun v l r s' i => ?_) (fun r s' i => ?_) _ _ ⟨rfl, rfl, strs_are hi⟩
  · obtain ⟨_, rfl, al⟩ := i
    obtain ⟨x, t, rfl⟩ := al v List.mem_cons_self
    rw [str_noclass]
    refine wpAny_bind (wpAny_pure ?_)
    simp only [Bool.false_eq_true, if_false]
    exact wpAny_pure ⟨rfl, rfl, fun u hu => al u (List.mem_cons_of_mem _ hu)⟩
  · obtain ⟨r1, r2⟩ := r
    obtain ⟨e, rfl, _⟩ := i
    dsimp only at e
    subst e
    exact wpAny_pure q
theorem tup_byvalue {k : List Str} {b : Addr} {Q : Bool → Shared → Prop} (hk : IsTupleKey (PySem.strKind P w) s.heap k b) (q : ∀ c, Q c s) : wpAny (model P w) A (hashByValue 8 (.ref b)) Q E s := by
  have ty := hk.typeIs
  obtain ⟨o, its, n, ho, _, hd, hi⟩ := hk
  unfold hashByValue
  refine wpAny_bind (wpAny_specialOf ty PySem.F.slot_tuple_hash.lookup ?_)
  show wpAny _ _ (seqItems? (.ref b) >>= _) _ _ s
  refine wpAny_bind (wpAny_seqItems ho hd ?_)
  refine wpAny_bind ?_
  show wpAny _ _ (forIn its _ _) _ _ s
  rw [← Array.forIn_toList]
  refine wpAny_forIn_list _ (fun l r s' => r.1 = none ∧ s' = s ∧ ∀ v ∈ l, ∃ x t, v = Value.str x t) _ (fun v l r s' i => ?_) (fun r s' i => ?_) _ _ ⟨rfl, rfl, strs_are hi⟩
  · obtain ⟨_, rfl, al⟩ := i
    obtain ⟨x, t, rfl⟩ := al v List.mem_cons_self
    rw [str_byvalue]
    refine wpAny_bind (wpAny_pure ?_)
    simp only [Bool.not_false, if_true]
    exact wpAny_pure (wpAny_pure (q false))
  · obtain ⟨r1, r2⟩ := r
    obtain ⟨e, rfl, _⟩ := i
    dsimp only at e
    subst e
    exact wpAny_pure (q true)
end
def txK (P : Program) (w : World) : SK P w (List Str) where
  kd := tupleKind (PySem.strKind P w)
  ofc := tup_noclass
  hbv := tup_byvalue
  stays := fun x k => tupleKind_stays.stays k x
def SetM0 (P : Program) (w : World) (h : Heap) (a : Addr) (L : List (Addr × List Str)) : Prop :=
  ∃ (es : Array (Int × Value)) (ep : Nat) (t : SetTable), (∃ o, h.get? a = some o ∧ o.ExactSet ∧ o.data = .set es ep t) ∧ es.toList = mems (txK P w) L ∧ TabOk t (hshs (txK P w) L) ∧ (L.map Prod.snd).Nodup ∧
    (w.params.followText "set-order" = true ∨ t.led = true) ∧ L.length * 5 < t.mask * 3 ∧ L.length < 64
theorem SetM.bare {P : Program} {w : World} {h : Heap} {a : Addr} {L : List (Addr × List Str)} {es : Array (Int × Value)} {ep : Nat} {t : SetTable} (R : SetM (txK P w) h a L es ep t) : SetM0 P w h a L :=
  ⟨es, ep, t, R.obj, R.row, R.tab, R.dis, R.ord, R.rm, R.lt⟩
section
variable {X : Cx}
theorem rel_vals : ∀ {ts : List Addr} {us : List Value}, Vals (ts.map V.ref) us → us = ts.map Value.ref
  | [], _, .nil => rfl
  | t :: ts, _, .cons r h => by
    cases r
    rw [rel_vals h]
    rfl
end
end L3
namespace L3
open PySem PySem.Spec PyProof.Rows L2
open Sem (wp)
section
variable {prog : Program} {w : World} {A : Around} {E : Value → Shared → Prop} {s : Shared}
theorem MixRaw.at' {h h' : Heap} {d : Addr} {xs : List NE} (x : MixRaw w h d xs) (e : ∀ o, h.get? d = some o → h'.get? d = some o) : MixRaw w h' d xs :=
  let ⟨o, es, ep, ho, r⟩ := x; ⟨o, es, ep, e _ ho, r⟩
theorem MixRaw.lt {h : Heap} {d : Addr} {xs : List NE} (x : MixRaw w h d xs) : d < h.objs.size := let ⟨_, _, _, ho, _⟩ := x; Heap.lt_size ho
theorem MixRaw.new (h : Heap) : MixRaw w (h.push { cls := .type "dict", data := .dict #[] }) h.objs.size [] :=
  ⟨_, #[], 0, Heap.get?_push_size _ rfl, ⟨rfl, rfl, rfl⟩, rfl, rfl, List.nodup_nil⟩
theorem MixRaw.typeIs {d : Addr} {xs : List NE} (hm : MixRaw w s.heap d xs) : s.TypeIs (.ref d) "dict" :=
  let ⟨o, _, _, ho, hc, _⟩ := hm; ⟨o, ho, hc.1⟩
theorem KeysAre.at {h h' : Heap} {xs : List NE} (x : KeysAre h xs) (hk : ∀ a o vs n, h.get? a = some o → o.data = .seq vs n → h'.get? a = some o) : KeysAre h' xs :=
  fun z hz => ⟨NestedIs.at hk _ _ (x z hz).1, (x z hz).2⟩
def atM (xs : List NE) (k : NestedKey) : Option Value := (xs.find? fun x => decide (x.1 = k)).map (·.2.2)
theorem atM_some {xs : List NE} (hn : (xs.map (·.1)).Nodup) {j : Nat} {k : NestedKey} {p : Value × Value} (h : xs[j]? = some (k, p)) : atM xs k = some p.2 := by
  unfold atM
  cases e : xs.find? fun x => decide (x.1 = k) with
  | none =>
    have := List.find?_eq_none.mp e _ (List.mem_of_getElem? h)
    exact absurd (decide_eq_true rfl) this
  | some x =>
    obtain ⟨i, hi⟩ := List.mem_iff_getElem?.mp (List.mem_of_find?_eq_some e)
    have hk : x.1 = k := by simpa using List.find?_some e
    have := key_once hn hi h hk
    subst this
    rw [hi] at h
    cases h
    rfl
theorem atM_none {xs : List NE} {k : NestedKey} (h : ∀ x ∈ xs, x.1 ≠ k) : atM xs k = none := by
  unfold atM
  rw [List.find?_eq_none.mpr fun x hx => by simpa using h x hx]
  rfl
theorem mix_get {d : Addr} {xs : List NE} {k : NestedKey} {key : Value} {Q : Option Value → Shared → Prop} (hu : A.units + 8 < cLine) (hu2 : A.units + k.depth < cLine) (hk : NestedIs s.heap k key) (hd8 : k.depth ≤ 8)
    (hm : MixRaw w s.heap d xs) (hx : KeysAre s.heap xs) (h : ∀ tk, Q (atM xs k) { s with toks := tk }) : wpAny (model prog w) A (dictGet d key) Q E s := by
  obtain ⟨o, es, ep, ho, _, hd, he, hn⟩ := hm
  unfold dictGet
  try with_reducible refine wpAny_holding ?_
  refine wpAny_bind (pyHash_key k key A s _ hk hu2 (wpAny_bind (mix_find (s := { s with toks := s.toks + k.draws }) hu hk hd8 ho hd he hx hn ?_ ?_)))
  · intro hno
    have := h (s.toks + k.draws)
    rw [atM_none hno] at this
    exact wpAny_pure this
  · intro j p hj
    have := h (s.toks + k.draws)
    rw [atM_some hn hj] at this
    refine wpAny_bind (wpAny_dictEntries (s := { s with toks := s.toks + k.draws }) ho hd ?_)
    rw [nE_at he, hj]
    exact wpAny_pure this
theorem mix_put {d : Addr} {xs : List NE} {k : NestedKey} {key v : Value} {Q : Unit → Shared → Prop} (hu : A.units + 8 < cLine) (hu2 : A.units + k.depth < cLine) (hk : NestedIs s.heap k key) (hd8 : k.depth ≤ 8)
    (hm : MixRaw w s.heap d xs) (hx : KeysAre s.heap xs) (hno : ∀ x ∈ xs, x.1 ≠ k) (hsz : xs.length ≤ sizeLine)
    (h : ∀ h' tk, MixRaw w h' d (xs ++ [(k, key, v)]) → Heap.SameBut d s.heap h' → Q () { s with heap := h', toks := tk }) : wpAny (model prog w) A (dictSet d key v) Q E s := by
  obtain ⟨o, es, ep, ho, hc, hd, he, hn⟩ := hm
  unfold dictSet
  try with_reducible refine wpAny_holding ?_
  refine wpAny_bind (pyHash_key k key A s _ hk hu2 ?_)
  unfold dictSetHashed
  try with_reducible refine wpAny_holding ?_
  refine wpAny_bind (mix_find (s := { s with toks := s.toks + k.draws }) hu hk hd8 ho hd he hx hn ?_ ?_)
  · intro _
    refine wpAny_bind (wpAny_rule (wpAny_updateDictKeys (hz := by have e := nE_size he; omega) (s := { s with toks := s.toks + k.draws }) ho hd (h _ _ ⟨_, _, ep + 1, Heap.get?_update_self _ ho (Obj.isFreed_of_dict (Obj.data_mapDictKeys hd _)),
      hc.mapDictKeys _, Obj.data_mapDictKeys hd _, ?_, ?_⟩ (Heap.SameBut.update ..))))
    · simp [he, nE]
    · rw [List.map_append, List.nodup_append]
      refine ⟨hn, by simp, ?_⟩
      intro x hx' y hy
      simp only [List.map_cons, List.map_nil, List.mem_singleton] at hy
      subst hy
      obtain ⟨z, hz, rfl⟩ := List.mem_map.mp hx'
      exact hno z hz
  · intro j p hj
    exact absurd rfl (hno _ (List.mem_of_getElem? hj))
end
/-- an entry: the key's data, the key, the value -/
abbrev EntM := PyData × V × V
def KM : List EntM → List NE → Prop := Paired fun p q => q.1 = keyN p.1 ∧ RelV p.2.1 q.2.1 ∧ RelV p.2.2 q.2.2
def TM (P : Program) (w : World) (a : Addr) (es : List EntM) : HO := .ext fun h => (a == sysModules) = false ∧ es.length ≤ sizeLine ∧ ∃ xs, KM es xs ∧ MixRaw w h a xs
/-- the keys stand -/
def KeysM (K : PySem.W.Frag) (H : Hp) (es : List EntM) : Prop := ∀ x ∈ es, Dp K H x.2.1 x.1 ∧ keyable x.1 = true ∧ (keyN x.1).depth ≤ 8
theorem KeysM.same {K : PySem.W.Frag} {H H' : Hp} {es : List EntM} (h : KeysM K H es) (s : Same H H') : KeysM K H' es := fun x hx => ⟨Dp.same s (h x hx).1, (h x hx).2⟩
section
variable {X : Cx} {pins : List (Addr × Obj)} {σ : L2.St} {H : Hp} {s : Shared}
theorem keys_are (I : L2.Inv X pins σ H s) {es : List EntM} {xs : List NE} (r : KM es xs) (h : KeysM X.K H es) : KeysAre s.heap xs := by
  unfold KM at r
  induction r with
  | nil => intro x hx; exact nomatch hx
  | @cons p q ps qs hq t ih =>
    intro x hx
    rcases List.mem_cons.mp hx with e | hx
    · subst e
      obtain ⟨d1, d2, d3⟩ := h p List.mem_cons_self
      rw [hq.1]
      exact ⟨nested_of I p.1 _ _ d1 hq.2.1 d2, d3⟩
    · exact ih (fun z hz' => h z (List.mem_cons_of_mem _ hz')) x hx
theorem KM.keys {es : List EntM} {xs : List NE} (r : KM es xs) : xs.map (·.1) = es.map fun p => keyN p.1 := by
  unfold KM at r
  induction r with
  | nil => rfl
  | cons h t ih => rw [List.map_cons, List.map_cons, ih, h.1]
theorem cr_dictM (hc : X.calm = true) (hu : X.A.units + 64 < cLine) : CallR X (.type "dict") (fun vs H Q => ∃ (l : Addr) (ts : List Addr) (ps : List EntM), vs = [.ref l] ∧ SqL X.K H l (ts.map V.ref) ∧ Paired (fun (t : Addr) (p : EntM) => SqT X.K H t [p.2.1, p.2.2]) ts ps ∧ KeysM X.K H ps ∧
    (ps.map fun p => keyN p.1).Nodup ∧ ∀ a, H a = none → Q (.ref a) (upd H a (TM X.prog X.w a ps))) := by
  intro pins s σ H vs us Q I r h
  obtain ⟨l, ts, ps, rfl, hl, hp, hk, hnd, q⟩ := h
  rw [Vals.ref1 r]
  obtain ⟨its, rv, pl, hz⟩ := I.list hl
  obtain rfl := rel_vals rv
  have hn : ts.length = ps.length := hp.length
  rw [List.length_map] at hz
  have vals : ∀ {ts : List Addr} {ps : List EntM}, Paired (fun (t : Addr) (p : EntM) => SqT X.K H t [p.2.1, p.2.2]) ts ps → ∃ qs : List NE, KM ps qs ∧ ∀ (j : Nat) (t : Addr) (q : NE), ts[j]? = some t → qs[j]? = some q → PairAt s.heap t q.2.1 q.2.2 := by
    intro ts ps h
    induction h with
    | nil => exact ⟨[], .nil, fun j t q e => by simp at e⟩
    | @cons t p ts ps h1 _ ih =>
      obtain ⟨qs, r1, r2⟩ := ih
      obtain ⟨jt, rt, ⟨o, ho, hcl, n, hd⟩, _⟩ := I.tuple h1
      cases rt with
      | @cons _ ua _ _ ra rb =>
        cases rb with
        | @cons _ u _ _ rc rd =>
          cases rd
          refine ⟨(keyN p.1, ua, u) :: qs, .cons ⟨rfl, ra, rc⟩ r1, fun j t' q e1 e2 => ?_⟩
          cases j with
          | zero =>
            cases e1
            cases e2
            exact .inl ⟨o, ho, hcl, n, by simpa using hd⟩
          | succ j => exact r2 j t' q e1 e2
  obtain ⟨qs, rq, hat⟩ := vals hp
  have ql : qs.length = ps.length := (show Paired _ _ _ from rq).length.symm
  have keys := keys_are I rq hk
  have qn : (qs.map (·.1)).Nodup := by rw [rq.keys]; exact hnd
  have item : ∀ (j : Nat) (q : NE), qs[j]? = some q → ∃ t, ts[j]? = some t ∧ PairAt s.heap t q.2.1 q.2.2 := fun j q e => by
    have hj := (List.getElem?_eq_some_iff.mp e).1
    have ht := List.getElem?_eq_getElem (l := ts) (i := j) (by omega)
    exact ⟨_, ht, hat j _ q ht e⟩
  have il : (ts.map Value.ref).toArray.size = (qs.map fun q => (q.2.1, q.2.2)).length := by rw [List.size_toArray, List.length_map, List.length_map]; omega
  have hq : (qs.map fun q => (q.2.1, q.2.2)).length = qs.length := List.length_map _
  refine call_dict_arg (PairArg.list l (ts.map Value.ref).toArray (fun j => ts.getD j 0) (qs.map fun q => (q.2.1, q.2.2)))
    ⟨let ⟨o, n, h1, h2, h3, h4⟩ := pl; ⟨o, n, h1, h2, h3, h4⟩, il, fun j k v hj => ?_⟩ fun s₁ hs₁ hdf ok₁ => ?_
  · rw [List.getElem?_map] at hj
    obtain ⟨q, hq, e⟩ := Option.map_eq_some_iff.mp hj
    cases e
    obtain ⟨t, ht, hp⟩ := item j q hq
    have e2 : ts.getD j 0 = t := by rw [List.getD_eq_getElem?_getD, ht]; rfl
    dsimp only
    rw [e2]
    exact ⟨by simp [ht], hp⟩
  subst hs₁
  refine updateFrom_arg (A := _) (Tab := fun i h => MixRaw X.w h s.heap.objs.size (qs.take i) ∧ ∀ b o, b ≠ s.heap.objs.size → s.heap.get? b = some o → h.get? b = some o) (PairArg.list l (ts.map Value.ref).toArray (fun j => ts.getD j 0) (qs.map fun q => (q.2.1, q.2.2))) .none (I.ok.hd hc) ok₁ hdf ⟨MixRaw.new s.heap, fun b o _ e => Heap.get?_push_of_some _ e⟩ (fun _ _ tb => tb.1.lt) ?_ ?_ ?_
  · intro i h h' wr' hd hw tb hk'
    refine ⟨tb.1.at' fun o e => hk' _ o hd e, fun b o h1 e => hk' b o (fun hm => ?_) (tb.2 b o h1 e)⟩
    rcases hw b hm with z | z
    · exact nomatch z
    · rw [Heap.get?_push_of_some _ e] at z; cases z
  · intro i key v s' Q' E' hi hrel tb _ hQ
    unfold PairRel at hrel
    rw [List.getElem?_map] at hrel
    obtain ⟨p, hp', e⟩ := Option.map_eq_some_iff.mp hrel
    cases e
    have kk : KeysAre s'.heap qs := keys.at fun a o vs n e1 _ => tb.2 a o (Nat.ne_of_lt (Heap.lt_size e1)) e1
    have tk : qs.take (i + 1) = qs.take i ++ [p] := by rw [List.take_add_one, hp']; rfl
    obtain ⟨n1, n2⟩ := kk p (List.mem_of_getElem? hp')
    refine mix_put (xs := qs.take i) (k := p.1) (by simp; omega) (by simp; omega) n1 n2 tb.1 (fun x hx => kk x (List.mem_of_mem_take hx)) (fun x hx ek => ?_) (by rw [List.length_take]; omega) fun h' tk' hm' hs => ?_
    · obtain ⟨j, hj⟩ := List.mem_iff_getElem?.mp hx
      rw [List.getElem?_take] at hj
      split at hj
      · next hlt =>
          have := key_once qn hj hp' ek
          omega
      · cases hj
    · exact hQ h' tk' ⟨by rw [tk]; exact hm', fun b o h1 e => hs.extBut b o h1 (tb.2 b o h1 e)⟩ hs
  · intro h' tk' tb hk'
    rw [hq, List.take_length] at tb
    have k' : ∀ b o, s.heap.get? b = some o → h'.get? b = some o := fun b o e => tb.2 b o (Nat.ne_of_lt (Heap.lt_size e)) e
    have hb := L2.Inv.big I
    have ns : (s.heap.objs.size == sysModules) = false := by
      simp only [beq_eq_false_iff_ne, ne_eq]
      intro z
      rw [z] at hb
      exact absurd hb (Nat.lt_irrefl _)
    refine ⟨rfl, .ref s.heap.objs.size, _, I.laid (a := s.heap.objs.size) (o := TM X.prog X.w s.heap.objs.size ps) (t' := tk') k' (Nat.le_refl _) ?_, rfl, q _ (I.hok.fresh (Nat.le_refl _))⟩
    have ob : ∃ o, h'.get? s.heap.objs.size = some o := let ⟨o, _, _, ho, _⟩ := tb.1; ⟨o, ho⟩
    exact ⟨⟨ns, by omega, _, rq, tb.1⟩, ob, fun h1 h2 ⟨a1, a2, ws, a3, a4⟩ k => ⟨a1, a2, ws, a3, a4.at' k⟩⟩
end
end L3
namespace L3
open PySem PySem.Spec PyProof.Rows L2
open Sem (wp)
def dkM (kvs : List (Key × V)) : List EntM := kvs.map fun kv => (keyD kv.1, kV kv.1, kv.2)
/-- what stands at a reads as a dict of these entries -/
def MxU (P : Program) (w : World) (a : Addr) (u : HO) (es : List EntM) : Prop := u = TM P w a es ∨ ∃ kvs, u = .dK kvs ∧ es = dkM kvs
theorem keyN_D (k : Key) : ∀ w : World, (keyN (keyD k)).hash w = keyH w k := fun w => by cases k <;> rfl
theorem keyN_inj : ∀ {k l : Key}, keyN (keyD k) = keyN (keyD l) → k = l
  | .inl i, .inl j, h => by injection h with h; rw [h]
  | .inr x, .inr y, h => by injection h with h; rw [h]
  | .inl i, .inr y, h => by cases h
  | .inr x, .inl j, h => by cases h
theorem dk_entries {P : Program} {w : World} : ∀ {l : List DictEntry} {vs : List (Key × Value)} {kvs : List (Key × V)}, Pairs (mixKind P w) l vs → KV kvs vs → (∀ e ∈ l, ∃ k, (mixKind P w).is k e.key = true ∧ e.hash = (mixKind P w).hash k) →
    ∃ xs, KM (dkM kvs) xs ∧ l = xs.map (nE w) ∧ xs.map (·.1) = vs.map fun p => keyN (keyD p.1)
  | _, _, _, .nil, r, _ => by
    cases r
    exact ⟨[], .nil, rfl, rfl⟩
  | _, _, _, .cons (e := e) (kv := kv) h1 h2 t, r, hk => by
    cases r with
    | @cons p _ ps _ hp tp =>
      obtain ⟨xs, r1, r2, r3⟩ := dk_entries t tp fun e he => hk e (List.mem_cons_of_mem _ he)
      obtain ⟨k', hk', hh⟩ := hk e List.mem_cons_self
      have ek : k' = kv.1 := (mixKind P w).inj _ _ _ hk' h1
      subst ek
      refine ⟨(keyN (keyD kv.1), e.key, e.val) :: xs, .cons ⟨by dsimp only; rw [hp.1], ?_, ?_⟩ r1, ?_, ?_⟩
      · show RelV (kV p.1) e.key
        rw [hp.1]
        exact relV_key (show keyIs kv.1 e.key = true from h1)
      · show RelV p.2 e.val
        rw [h2]
        exact hp.2
      · rw [List.map_cons, ← r2]
        have : nE w (keyN (keyD kv.1), e.key, e.val) = e := by
          unfold nE
          rw [keyN_D]
          show (⟨keyH w kv.1, e.key, e.val⟩ : DictEntry) = e
          have hh : e.hash = keyH w kv.1 := hh
          rw [← hh]
        rw [this]
      · rw [List.map_cons, List.map_cons, r3]
theorem mxu_raw {P : Program} {w : World} {H : Hp} {h : Heap} {a : Addr} {u : HO} {es : List EntM} (m : MxU P w a u es) (x : ObjOk P w H h a u) : (a == sysModules) = false ∧ es.length ≤ sizeLine ∧ ∃ xs, KM es xs ∧ MixRaw w h a xs := by
  rcases m with rfl | ⟨kvs, rfl, rfl⟩
  · exact x.1
  · obtain ⟨z, hs, vs, rel, o, es, ep, ho, hx, hd, hk, hp, hn⟩ := x
    obtain ⟨xs, r1, r2, r3⟩ := dk_entries hp rel fun e he => hk e (by simpa using he)
    refine ⟨hs, by unfold dkM; rw [List.length_map]; exact z, xs, r1, o, es, ep, ho, hx, hd, r2, ?_⟩
    rw [r3]
    have e : vs.map (fun p => keyN (keyD p.1)) = (vs.map (·.1)).map fun k => keyN (keyD k) := by rw [List.map_map]; rfl
    rw [e]
    exact List.Pairwise.map _ (fun a b n q => n (keyN_inj q)) hn
def MxAt (P : Program) (w : World) (K : PySem.W.Frag) (H : Hp) (a : Addr) (es : List EntM) : Prop := (∃ u, Rd H a u ∧ MxU P w a u es) ∧ KeysM K H es
theorem keys_dk {K : PySem.W.Frag} {H : Hp} (kvs : List (Key × V)) : KeysM K H (dkM kvs) := fun x hx => by
  obtain ⟨kv, _, rfl⟩ := List.mem_map.mp hx
  obtain ⟨k, v⟩ := kv
  cases k with
  | inl i => exact ⟨.int _, rfl, Nat.zero_le _⟩
  | inr x => exact ⟨.str _, rfl, Nat.zero_le _⟩
theorem MxAt.dk {P : Program} {w : World} {K : PySem.W.Frag} {H : Hp} {a : Addr} {kvs : List (Key × V)} (h : H a = some (.dK kvs)) : MxAt P w K H a (dkM kvs) := ⟨⟨_, .inl h, .inr ⟨kvs, rfl, rfl⟩⟩, keys_dk kvs⟩
theorem MxAt.same {P : Program} {w : World} {K : PySem.W.Frag} {H H' : Hp} {a : Addr} {es : List EntM} (h : MxAt P w K H a es) (s : Same H H') : MxAt P w K H' a es := by
  obtain ⟨⟨u, r, m⟩, k⟩ := h
  exact ⟨⟨u, r.elim (fun r => .inl (s _ _ r)) (fun ⟨o, r⟩ => .inr ⟨o, s _ _ r⟩), m⟩, k.same s⟩
/-- .. and no loop runs over it -/
def MxN (P : Program) (w : World) (K : PySem.W.Frag) (H : Hp) (a : Addr) (es : List EntM) : Prop := (∃ u, H a = some u ∧ MxU P w a u es) ∧ KeysM K H es
theorem MxN.at {P : Program} {w : World} {K : PySem.W.Frag} {H : Hp} {a : Addr} {es : List EntM} (h : MxN P w K H a es) : MxAt P w K H a es := ⟨let ⟨u, e, m⟩ := h.1; ⟨u, .inl e, m⟩, h.2⟩
theorem MxN.dk {P : Program} {w : World} {K : PySem.W.Frag} {H : Hp} {a : Addr} {kvs : List (Key × V)} (h : H a = some (.dK kvs)) : MxN P w K H a (dkM kvs) := ⟨⟨_, h, .inr ⟨kvs, rfl, rfl⟩⟩, keys_dk kvs⟩
theorem MxN.same {P : Program} {w : World} {K : PySem.W.Frag} {H H' : Hp} {a : Addr} {es : List EntM} (h : MxN P w K H a es) (s : Same H H') : MxN P w K H' a es := by
  obtain ⟨⟨u, r, m⟩, k⟩ := h
  exact ⟨⟨u, s _ _ r, m⟩, k.same s⟩
def valM (es : List EntM) (k : NestedKey) : Option V := (es.find? fun x => decide (keyN x.1 = k)).map (·.2.2)
theorem KM.val {es : List EntM} {xs : List NE} (r : KM es xs) (k : NestedKey) : RelO (valM es k) (atM xs k) := by
  unfold KM at r
  induction r with
  | nil => exact True.intro
  | @cons p q ps qs h t ih =>
    obtain ⟨h1, _, h2⟩ := h
    by_cases e : keyN p.1 = k
    · have e' : q.1 = k := h1.trans e
      have b : atM (q :: qs) k = some q.2.2 := by simp [atM, List.find?_cons, e']
      have a : valM (p :: ps) k = some p.2.2 := by simp [valM, List.find?_cons, e]
      rw [a, b]; exact h2
    · have e' : ¬ q.1 = k := fun z => e (h1.symm.trans z)
      have b : atM (q :: qs) k = atM qs k := by simp [atM, List.find?_cons, e']
      have a : valM (p :: ps) k = valM ps k := by simp [valM, List.find?_cons, e]
      rw [a, b]; exact ih
section
variable {X : Cx} {pins : List (Addr × Obj)} {σ : L2.St} {H : Hp} {s : Shared} {a : Addr} {A : Around} {E : Value → Shared → Prop}
theorem mx_rd (I : L2.Inv X pins σ H s) {es : List EntM} (m : MxAt X.prog X.w X.K H a es) : (a == sysModules) = false ∧ es.length ≤ sizeLine ∧ ∃ xs, KM es xs ∧ MixRaw X.w s.heap a xs ∧ KeysAre s.heap xs := by
  obtain ⟨⟨u, r, m⟩, k⟩ := m
  obtain ⟨h1, h2, xs, h3, h4⟩ := mxu_raw m (r.ok I.hok)
  exact ⟨h1, h2, xs, h3, h4, keys_are I h3 k⟩
theorem mx_in {es : List EntM} {z : Str} {t : Tok} {Q : Value → Shared → Prop} (hu : A.units + 64 < cLine) (I : L2.Inv X pins σ H s) (m : MxAt X.prog X.w X.K H a es) (h : ∀ s', L2.Inv X pins σ H s' → Q (.bool (valM es (.text z)).isSome) s') :
    wpAny (model X.prog X.w) A (compareOp .In (.str z t) (.ref a)) Q E s := by
  obtain ⟨hs, _, xs, r, hm, hk⟩ := mx_rd I m
  have hv := RelO.isSome_eq (r.val (.text z))
  show wpAny _ _ (do return .bool (← contains (.ref a) (.str z t))) Q E s
  refine wpAny_bind ?_
  unfold contains
  try with_reducible refine wpAny_holding ?_
  refine wpAny_bind (wpAny_specialOf hm.typeIs slot_dict_contains.lookup ?_)
  show wpAny _ _ (if (some (Value.builtin "dict.__contains__") == some Value.none) = true then _ else _) _ E s
  rw [if_neg (by rw [beq_builtin_none]; exact Bool.false_ne_true)]
  refine wpAny_bind (wpAny_callSpecialUnlessNone?_slot (name := Str.ofString "__contains__") hm.typeIs slot_dict_contains
    (wpAny_call_entry slot_dict_contains hm.typeIs entry_dict_contains ?_ (args_dict_contains _ _)))
  show wpAny _ _ (dictGet a (.str z t) >>= _) _ _ s
  refine wpAny_bind (mix_get (k := .text z) (by simp; omega) (by simp [NestedKey.depth]; omega) (.text z t) (Nat.zero_le _) hm hk fun tk => ?_)
  have fin := h _ (I.tok tk)
  cases hf : atM xs (.text z) with
  | some p =>
    rw [hf] at hv
    rw [hv] at fin
    show wpAny _ _ (ret (.bool true)) _ _ _
    exact wpAny_pure ⟨_, rfl, wpAny_truthy_bool (wpAny_pure fin)⟩
  | none =>
    rw [hf] at hv
    rw [hv] at fin
    show wpAny _ _ (Builtin.Dict.pendingKey? a (.str z t) >>= _) _ _ _
    exact wpAny_bind (wpAny_pendingKey_other hs (wpAny_pure ⟨_, rfl, wpAny_truthy_bool (wpAny_pure fin)⟩))
theorem mx_get {es : List EntM} {z : Str} {t : Tok} {v : V} {Q : Value → Shared → Prop} (hu : A.units + 64 < cLine) (I : L2.Inv X pins σ H s) (m : MxAt X.prog X.w X.K H a es) (hv : valM es (.text z) = some v) (h : ∀ w' s', L2.Inv X pins σ H s' → RelV v w' → Q w' s') :
    wpAny (model X.prog X.w) A (getItem (.ref a) (.str z t)) Q E s := by
  obtain ⟨_, _, xs, r, hm, hk⟩ := mx_rd I m
  obtain ⟨w', hw, rw'⟩ := RelO.some_of (v := v) (o := atM xs (.text z)) (by rw [← hv]; exact r.val _)
  unfold getItem
  try with_reducible refine wpAny_holding ?_
  refine wpAny_bind (wpAny_sequenceKey hm.typeIs (by decide) ?_)
  refine wpAny_bind (wpAny_callSpecial?_slot (name := Str.ofString "__getitem__") hm.typeIs slot_dict_getitem
    (wpAny_call_entry slot_dict_getitem hm.typeIs entry_dict_getitem ?_ (args_dict_getitem _ _)))
  show wpAny _ _ (dictGet a (.str z t) >>= _) _ _ s
  refine wpAny_bind (mix_get (k := .text z) (by simp; omega) (by simp [NestedKey.depth]; omega) (.text z t) (Nat.zero_le _) hm hk fun tk => ?_)
  rw [hw]
  exact wpAny_pure ⟨w', rfl, wpAny_pure (h w' _ (I.tok tk) rw')⟩
theorem cr_lenM : CallR X (.builtin "len") (fun xs H Q => ∃ (a : Addr) (es : List EntM), xs = [.ref a] ∧ MxAt X.prog X.w X.K H a es ∧ Q (.int (es.length : Int)) H) := by
  intro pins s σ H xs us Q I r h
  obtain ⟨a, es, rfl, m, q⟩ := h
  rw [Vals.ref1 r]
  obtain ⟨hs, hz, xs, r, ⟨o, ens, ep, ho, hx, hd, he, _⟩, _⟩ := mx_rd I m
  have hl : es.length = xs.length := (show Paired _ _ _ from r).length
  have hes : ens.size = es.length := by rw [nE_size he, hl]
  have raw : s.heap.DictRaw a ens ep := ⟨o, ho, hx, hd⟩
  rw [sizeLine_eq] at hz
  refine Calls.call_function_entry kind_len plain_len entry_len (args_len1 _) ?_
  unfold Builtin.«len»
  refine wpAny_bind (m := oneArg "len" _) (wpAny_pure ?_)
  refine wpAny_bind (m := callSpecial? (.ref a) (Str.ofString "__len__")) (wpAny_callSpecial?_slot (name := Str.ofString "__len__") raw.typeIs PySem.F.slot_dict_len (call_len_raw hs raw ?_))
  show wpAny _ _ _ _ _ { s with toks := s.toks + 1 }
  refine wpAny_bind (wpAny_holding (wpAny_pure ?_))
  refine wpAny_bind (wpAny_letGo ?_)
  show wpAny _ _ (if ((ens.size : Nat) : Int) < 0 then _ else _) _ _ _
  rw [if_neg (by omega)]
  show wpAny _ _ (if ((ens.size : Nat) : Int) ≥ 2 ^ 63 then _ else _) _ _ _
  rw [if_neg (by omega)]
  refine wpAny_bind (wpAny_mkInt (wpAny_pure ⟨_, rfl, ?_⟩))
  rw [hes]
  exact ⟨.int (es.length : Int), H, I.tok _, ⟨_, rfl⟩, q⟩
end
/-- y in d, y a text -/
def tMIn (P : Program) (w : World) (K : PySem.W.Frag) (ty td : TE) : TE := fun σ H Q => ty σ H fun y H1 => td σ H1 fun x H2 => ∃ (a : Addr) (es : List EntM) (z : Str), x = .ref a ∧ y = .str z ∧ MxAt P w K H2 a es ∧ Q (.bl (valM es (.text z)).isSome) H2
/-- d[y], y a text -/
def tMGet (P : Program) (w : World) (K : PySem.W.Frag) (td ty : TE) : TE := fun σ H Q => td σ H fun x H1 => ty σ H1 fun y H2 => ∃ (a : Addr) (es : List EntM) (z : Str) (v : V), x = .ref a ∧ y = .str z ∧ MxAt P w K H2 a es ∧ valM es (.text z) = some v ∧ Q v H2
section
variable {X : Cx} {o i : Expr} {pos : Pos} {td ty : TE}
theorem pe_mget (hu : X.A.units + 64 < cLine) (ho : PE X o td) (hi : PE X i ty) (hs : L2.NoSl i) : PE X (.Subscript o i pos) (tMGet X.prog X.w X.K td ty) := by
  refine ⟨fun pins s σ H Q I h => ?_⟩
  refine subD_of PySem.F.slot_dict_getitem.lookup hs (thn (ho.run pins s σ H _ I h) fun u s1 ⟨x, H1, I1, rx, q1⟩ => thn (hi.run pins s1 σ H1 _ I1 q1) fun iv s2 ⟨y, H2, I2, ry, a, es, z, v, ex, ey, m, hv, q2⟩ => ?_)
  subst ex ey
  obtain rfl : u = Value.ref a := rx
  obtain ⟨t, rfl⟩ := ry
  obtain ⟨_, _, _, _, hm, _⟩ := mx_rd I2 m
  exact ⟨hm.typeIs, mx_get hu I2 m hv fun w' s3 I3 rw' => ⟨v, H2, I3, rw', q2⟩⟩
theorem pc_min (hu : X.A.units + 64 < cLine) (hi : PE X i ty) (ho : PE X o td) : PC X .In i o (tMIn X.prog X.w X.K ty td) := by
  refine ⟨fun pins s σ H Q I h => ?_⟩
  refine thn (hi.run pins s σ H _ I h) fun iv s1 ⟨y, H1, I1, ry, q1⟩ => thn (ho.run pins s1 σ H1 _ I1 q1) fun u s2 ⟨x, H2, I2, rx, a, es, z, ex, ey, m, q2⟩ => ?_
  subst ex ey
  obtain rfl : u = Value.ref a := rx
  obtain ⟨t, rfl⟩ := ry
  exact mx_in hu I2 m fun s3 I3 => ⟨.bl (valM es (.text z)).isSome, H2, I3, rfl, q2⟩
end
def Itmk (d : Addr) (o : Obj) (u : HO) (es : List EntM) : It :=
  ⟨fun i H => H d = some (.frz o u) ∧ i < es.length, fun i H x H' => H' = H ∧ ∃ e, es[i]? = some e ∧ x = e.2.1, fun i H => H d = some (.frz o u) ∧ es.length ≤ i⟩
def Itmv (d : Addr) (o : Obj) (u : HO) (es : List EntM) : It :=
  ⟨fun i H => H d = some (.frz o u) ∧ i < es.length, fun i H x H' => H' = H ∧ ∃ e, es[i]? = some e ∧ x = e.2.2, fun i H => H d = some (.frz o u) ∧ es.length ≤ i⟩
theorem KM.at {es : List EntM} {xs : List NE} (r : KM es xs) : ∀ {i : Nat} {e : EntM}, es[i]? = some e → ∃ x, xs[i]? = some x ∧ RelV e.2.1 x.2.1 ∧ RelV e.2.2 x.2.2 := by
  unfold KM at r
  induction r with
  | nil => intro i e h; simp at h
  | @cons p q ps qs hq t ih =>
    intro i e h
    cases i with
    | zero => cases h; exact ⟨q, rfl, hq.2.1, hq.2.2⟩
    | succ i => exact ih h
section
variable {P : Program} {w : World} {K : PySem.W.Frag} {tg : Expr} {d : Addr} {o : Obj} {u : HO} {es : List EntM} {ens : Array DictEntry} {ep : Nat}
theorem frz_mx {X : Cx} {pins : List (Addr × Obj)} {σ : L2.St} {H : Hp} {s : Shared} (I : L2.Inv X pins σ H s) (h : H d = some (.frz o u)) (m : MxU X.prog X.w d u es) :
    (d == sysModules) = false ∧ s.heap.get? d = some o ∧ o.ExactDict ∧ ∃ (ens : Array DictEntry) (ep : Nat), o.data = .dict ens ep ∧ ens.size = es.length ∧
      ∀ (i : Nat) (e : EntM), es[i]? = some e → ∃ en : DictEntry, ens[i]? = some en ∧ RelV e.2.1 en.key ∧ RelV e.2.2 en.val := by
  obtain ⟨hd, hu⟩ := I.hok d _ h
  obtain ⟨hs, _, xs, r, o', ens, ep, ho, hx, hdt, he, _⟩ := mxu_raw m hu
  rw [hd] at ho
  cases ho
  refine ⟨hs, hd, hx, ens, ep, hdt, by rw [nE_size he]; exact (show Paired _ _ _ from r).length.symm, fun i e hi => ?_⟩
  obtain ⟨x, hx', r1, r2⟩ := r.at hi
  exact ⟨nE X.w x, by rw [nE_at he, hx']; rfl, r1, r2⟩
theorem turn_keysM (it : Addr) (m : MxU P w d u es) (hod : o.data = .dict ens ep) : Turn P w K tg (Itmk d o u es) [it] it (fun i h => h.IsKeyIter it d i es.length ep) where
  mem := by simp
  obj := fun i h st b hb => by
    have e : b = it := by simpa using hb
    subst e
    obtain ⟨oi, e, c, dd⟩ := st
    exact ⟨oi, e, fun v z => by rw [dd] at z; cases z⟩
  keep := fun i h h' st k => st.at fun oi e => k it (by simp) oi e
  item := by
    intro X hP hw hK hc i pins s σ H E I hf st hg
    subst hP hw hK
    obtain ⟨hd, hi⟩ := hg
    obtain ⟨f0, f1, f2, f3, f4, f5⟩ := hf it (by simp)
    obtain ⟨hs, hgd, hx, es', ep', hdt, hsz, ent⟩ := frz_mx I hd m
    obtain ⟨rfl, rfl⟩ := dict_ep hod hdt
    obtain ⟨e, he⟩ : ∃ p, es[i]? = some p := ⟨es[i], List.getElem?_eq_getElem hi⟩
    obtain ⟨en, hen, hkey, _⟩ := ent i e he
    refine next_key_item st hgd hdt hsz hen fun h' st' sb => ?_
    have I1 : L2.Inv X pins σ H { s with heap := h' } := I.turned (t' := s.toks) (fun b ob hb e => (sb.2 b hb).trans e) f0 f1 f3 f4 f5
    obtain ⟨oi, e1, c, dd⟩ := id st'
    exact ⟨en.key, rfl, go_of (s := { s with heap := h' }) e1 c dd (by decide) ⟨e.2.1, H, I1, hkey, ⟨rfl, e, he, rfl⟩, st', fun b hb => (hf b hb).1⟩⟩
  done := by
    intro X hP hw hK hc i pins s σ H E I hf st hg
    subst hP hw hK
    obtain ⟨hd, hi⟩ := hg
    obtain ⟨f0, f1, f2, f3, f4, f5⟩ := hf it (by simp)
    obtain ⟨hs, hgd, hx, es', ep', hdt, hsz, ent⟩ := frz_mx I hd m
    obtain ⟨rfl, rfl⟩ := dict_ep hod hdt
    exact next_key_end (I.ok.hd hc) st hgd hdt hsz hi fun h' eb => ⟨rfl, I.turned (t' := s.toks) (fun b ob hb e => eb b ob hb e) f0 f1 f3 f4 f5⟩
  self := fun A i s Q E st h => wpAny_pyIter_keyiter st h
theorem turn_valsM (it : Addr) (m : MxU P w d u es) (hod : o.data = .dict ens ep) : Turn P w K tg (Itmv d o u es) [it] it (fun i h => h.IsValIter it d i es.length ep) where
  mem := by simp
  obj := fun i h st b hb => by
    have e : b = it := by simpa using hb
    subst e
    obtain ⟨oi, e, c, dd⟩ := st
    exact ⟨oi, e, fun v z => by rw [dd] at z; cases z⟩
  keep := fun i h h' st k => st.at fun oi e => k it (by simp) oi e
  item := by
    intro X hP hw hK hc i pins s σ H E I hf st hg
    subst hP hw hK
    obtain ⟨hd, hi⟩ := hg
    obtain ⟨f0, f1, f2, f3, f4, f5⟩ := hf it (by simp)
    obtain ⟨hs, hgd, hx, es', ep', hdt, hsz, ent⟩ := frz_mx I hd m
    obtain ⟨rfl, rfl⟩ := dict_ep hod hdt
    obtain ⟨e, he⟩ : ∃ p, es[i]? = some p := ⟨es[i], List.getElem?_eq_getElem hi⟩
    obtain ⟨en, hen, _, hval⟩ := ent i e he
    rw [← hsz] at st
    have raw : s.heap.DictRaw d es' ep' := ⟨o, hgd, hx, hdt⟩
    have hie : i < es'.size := by omega
    have een : es'[i] = en := by rw [Array.getElem?_eq_getElem hie] at hen; exact Option.some.inj hen
    refine wpAny_pyNext_values_item_raw st raw hie fun h' st' sb => ?_
    have I1 : L2.Inv X pins σ H { s with heap := h' } := I.turned (t' := s.toks) (fun b ob hb e => (sb.2 b hb).trans e) f0 f1 f3 f4 f5
    obtain ⟨oi, e1, c, dd⟩ := id st'
    rw [een]
    refine ⟨en.val, rfl, go_of (s := { s with heap := h' }) e1 c dd (by decide) ⟨e.2.2, H, I1, hval, ⟨rfl, e, he, rfl⟩, ?_, fun b hb => (hf b hb).1⟩⟩
    show h'.IsValIter it d (i + 1) es.length _
    rw [← hsz]
    exact st'
  done := by
    intro X hP hw hK hc i pins s σ H E I hf st hg
    subst hP hw hK
    obtain ⟨hd, hi⟩ := hg
    obtain ⟨f0, f1, f2, f3, f4, f5⟩ := hf it (by simp)
    obtain ⟨hs, hgd, hx, es', ep', hdt, hsz, ent⟩ := frz_mx I hd m
    obtain ⟨rfl, rfl⟩ := dict_ep hod hdt
    rw [← hsz] at st
    have raw : s.heap.DictRaw d es' ep' := ⟨o, hgd, hx, hdt⟩
    exact wpAny_pyNext_values_end_raw (I.ok.hd hc) st raw (by omega) fun h' eb => ⟨rfl, I.turned (t' := s.toks) (fun b ob hb e => eb b ob hb e) f0 f1 f3 f4 f5⟩
  self := fun A i s Q E st h => wpAny_pyIter_valiter st h
end
theorem mut_mx {P : Program} {w : World} {a : Addr} {u : HO} {es : List EntM} (m : MxU P w a u es) : Mut (some u) := by
  rcases m with rfl | ⟨kvs, rfl, _⟩ <;> trivial
/-- for k in e, e a dict that is locked -/
def iKeysX (P : Program) (w : World) (td : TE) : TI := fun σ H R => td σ H fun x H1 => ∃ d o u es, x = .ref d ∧ H1 d = some (.frz o u) ∧ MxU P w d u es ∧ R (Itmk d o u es) H1
/-- for v in e.values(), e a dict that is locked -/
def iValsX (P : Program) (w : World) (td : TE) : TI := fun σ H R => td σ H fun x H1 => ∃ d o u es, x = .ref d ∧ H1 d = some (.frz o u) ∧ MxU P w d u es ∧ R (Itmv d o u es) H1
section
variable {X : Cx} {tg e : Expr} {td : TE} {apos cpos : Pos}
theorem pi_keysX (he : PE X e td) : PI X tg e (iKeysX X.prog X.w td) := by
  refine ⟨fun pins s σ H R I h => ?_⟩
  refine thn (he.run pins s σ H _ I h) fun u s1 ⟨x, H1, I1, rx, d, od, uo, es, ex, hd, m, q⟩ => ?_
  subst ex
  obtain rfl : u = Value.ref d := rx
  obtain ⟨hs, hgd, hx, ens, ep, hdt, hsz, ent⟩ := frz_mx I1 hd m
  refine iter_keys hs hgd hx hdt (pi_one (tk := s1.toks) I1 _ (turn_keysM _ m hdt) ⟨_, Heap.get?_push_size _ rfl, rfl, ?_⟩ q)
  rw [hsz] <;> rfl
theorem pi_valsX (he : PE X e td) (hbase : attributeBase e "values" X.env (eval e X.env) = eval e X.env := by rfl) (hline : (apos.endLine == cpos.line) = true := by rfl) : PI X tg (.Call (.Attribute e "values" apos) [] [] cpos) (iValsX X.prog X.w td) := by
  refine ⟨fun pins s σ H R I h => ?_⟩
  refine wpAny_Call_method (T := "dict") (id := "dict.values") hbase rfl hline PySem.F.plainAttrs_dict PySem.F.slot_dict_values PySem.F.type_dict_values (thn (he.run pins s σ H _ I h) fun u s1 ⟨x, H1, I1, rx, d, od, uo, es, ex, hd, m, q⟩ => ?_)
  subst ex
  obtain rfl : u = Value.ref d := rx
  obtain ⟨hs, hgd, hx, ens, ep, hdt, hsz, ent⟩ := frz_mx I1 hd m
  refine ⟨⟨od, hgd, hx.1⟩, (fun a q => by cases q; exact ⟨od, hgd, hx.2.1⟩), ?_⟩
  have I3 : L2.Inv X pins σ H1 { s1 with heap := s1.heap.push { cls := .type "dict_values", data := .fields #[.ref d] } } := I1.kept (t' := s1.toks) fun b ob q => Heap.get?_push_of_some _ q
  have raw : (s1.heap.push { cls := .type "dict_values", data := .fields #[.ref d] }).DictRaw d ens ep := ⟨od, Heap.get?_push_of_some _ hgd, hx, hdt⟩
  have fin : wpAny (model X.prog X.w) X.A (pyIter (.ref s1.heap.objs.size)) (PIE X pins σ tg R) X.xe { s1 with heap := s1.heap.push { cls := .type "dict_values", data := .fields #[.ref d] } } := by
    refine wpAny_pyIter_values_raw (d := d) ⟨_, Heap.get?_push_size _ rfl, rfl, rfl⟩ raw (pi_one (tk := s1.toks) I3 _ (turn_valsM _ m hdt) ⟨_, Heap.get?_push_size _ rfl, rfl, ?_⟩ q)
    rw [hsz] <;> rfl
  show wpAny _ _ (callWith cpos (.builtin "dict.values") [.ref d] [] []) _ X.xe s1
  exact method_meetsIn PySem.F.slot_dict_values PySem.F.entry_dict_values rfl (PySem.evalArgs_none ⟨rfl, ⟨od, hgd, hx.1⟩, PySem.F.args_dict_values_1 _, _, meets_dict_values_raw d hs, ⟨⟨ens, ep, od, hgd, hx, hdt⟩, fin⟩⟩)
end
end L3
namespace L3
open PySem PySem.Spec PyProof.Rows L2
open Sem (wp)
/-- the tuples tracked at their addresses -/
def putP : Hp → List Addr → List (V × V) → Hp
  | H, a :: as, p :: ps => putP (upd H a (.tup [p.1, p.2])) as ps
  | H, _, _ => H
theorem putP_off {b : Addr} : ∀ (as : List Addr) (ps : List (V × V)) (H : Hp), b ∉ as → putP H as ps b = H b
  | [], _, _, _ => rfl
  | _ :: _, [], _, _ => rfl
  | a :: as, p :: ps, H, h => by
    show putP (upd H a (.tup [p.1, p.2])) as ps b = H b
    rw [putP_off as ps _ (fun z => h (List.mem_cons_of_mem _ z)), upd_ne (fun z => h (by rw [z]; exact List.mem_cons_self))]
theorem putP_at : ∀ (as : List Addr) (ps : List (V × V)) (H : Hp), as.length = ps.length → as.Nodup → Paired (fun (t : Addr) (p : V × V) => putP H as ps t = some (.tup [p.1, p.2])) as ps
  | [], [], _, _, _ => .nil
  | [], _ :: _, _, h, _ => by cases h
  | _ :: _, [], _, h, _ => by cases h
  | a :: as, p :: ps, H, h, hn => by
    have hn' := List.nodup_cons.mp hn
    have ih := putP_at as ps (upd H a (.tup [p.1, p.2])) (Nat.succ.inj h) hn'.2
    refine .cons ?_ ih
    show putP (upd H a (.tup [p.1, p.2])) as ps a = some (.tup [p.1, p.2])
    rw [putP_off as ps _ hn'.1, upd_same]
def pairM (es : List EntM) : List (V × V) := es.map fun e => (e.2.1, e.2.2)
section
variable {X : Cx} {e : Expr} {te : TE} {p apos cpos pos : Pos}
theorem itemsM_laid {pins : List (Addr × Obj)} {σ : L2.St} {H : Hp} {s : Shared} {h' : Heap} {tk : Nat} {es : List EntM} {ens : Array DictEntry} {acc : Array Value} {c : Nat} {as : List Addr} (I : L2.Inv X pins σ H s) (hz : es.length ≤ sizeLine) (hsz : ens.size = es.length)
    (ent : ∀ (i : Nat) (e : EntM), es[i]? = some e → ∃ en : DictEntry, ens[i]? = some en ∧ RelV e.2.1 en.key ∧ RelV e.2.2 en.val)
    (hk : ∀ b o, s.heap.get? b = some o → h'.get? b = some o) (hS : h'.get? s.heap.objs.size = some { cls := .type "list", dict := none, data := .seq acc c, slots := #[] }) (hl : as.length = ens.size) (hG : PySem.W.DilG ens s.heap.objs.size h' as) (hacc : acc.toList = as.map Value.ref) :
    ∃ H' : Hp, Same H H' ∧ H s.heap.objs.size = none ∧ (∀ t ∈ as, H t = none) ∧ s.heap.objs.size ∉ as ∧ H' s.heap.objs.size = some (.lst (as.map V.ref)) ∧ Paired (fun (t : Addr) (q : V × V) => H' t = some (.tup [q.1, q.2])) as (pairM es) ∧
      (∀ b, b ∉ as → b ≠ s.heap.objs.size → H' b = H b) ∧ L2.Inv X pins σ H' { s with heap := h', toks := tk } := by
  have lp : (pairM es).length = es.length := List.length_map _
  have hSn : s.heap.objs.size ∉ as := fun z => Nat.lt_irrefl _ (hG.above _ z)
  have nd : as.Nodup := List.Pairwise.imp (fun {a b} (h : a < b) => Nat.ne_of_lt h) hG.rise
  have new : ∀ t ∈ as, H t = none := fun t ht => I.hok.fresh (Nat.le_of_lt (hG.above t ht))
  have newS : H s.heap.objs.size = none := I.hok.fresh (Nat.le_refl _)
  have atP := putP_at as (pairM es) (upd H s.heap.objs.size (.lst (as.map V.ref))) (by omega) nd
  have off : ∀ b, b ∉ as → b ≠ s.heap.objs.size → putP (upd H s.heap.objs.size (.lst (as.map V.ref))) as (pairM es) b = H b := fun b h1 h2 => by rw [putP_off as _ _ h1, upd_ne h2]
  have low : ∀ b o, s.heap.get? b = some o → b ∉ as ∧ b ≠ s.heap.objs.size := fun b o e => ⟨fun z => absurd (Heap.lt_size e) (Nat.not_lt.mpr (Nat.le_of_lt (hG.above b z))), Nat.ne_of_lt (Heap.lt_size e)⟩
  have kp : ∀ b u, H b = some u → (putP (upd H s.heap.objs.size (.lst (as.map V.ref))) as (pairM es)) b = some u := fun b u e => by
    rw [off b (fun z => by rw [new b z] at e; cases e) (fun z => by rw [z, newS] at e; cases e)]
    exact e
  have eS : putP (upd H s.heap.objs.size (.lst (as.map V.ref))) as (pairM es) s.heap.objs.size = some (.lst (as.map V.ref)) := by rw [putP_off as _ _ hSn, upd_same]
  refine ⟨putP (upd H s.heap.objs.size (.lst (as.map V.ref))) as (pairM es), kp, newS, new, hSn, eS, atP, off, ?_⟩
  refine I.call' (ch := []) rfl ⟨fun b o q _ _ _ => hk b o q, fun b o q _ _ _ => ⟨o.slots, hk b o q⟩, fun b o q n _ => ?_, fun b o q _ => ⟨o, hk b o q⟩, fun b xs q => kp b _ q, fun b o u q => kp b _ q, fun b ps q => ⟨#[], by rw [kp b _ q]; simp⟩⟩ (fun b u q => ?_) I.bare fun b z => by simp at z
  · obtain ⟨z1, z2⟩ := low b o q
    rw [off b z1 z2]
    exact n
  · by_cases hb : b ∈ as
    · obtain ⟨j, pk, e1, e2, e3⟩ := LiI.paired_ix atP hb
      rw [e3] at q
      cases q
      obtain ⟨hj, f3⟩ := hG.pairs j b e1
      unfold pairM at e2
      rw [List.getElem?_map] at e2
      obtain ⟨en, he, e2⟩ := Option.map_eq_some_iff.mp e2
      subst e2
      obtain ⟨d, hd, r1, r2⟩ := ent j en he
      rw [Array.getElem?_eq_getElem hj] at hd
      cases hd
      exact ⟨by show 2 ≤ sizeLine; decide, [_, _], .cons r1 (.cons r2 .nil), ⟨_, f3, rfl, _, rfl⟩⟩
    · by_cases hb2 : b = s.heap.objs.size
      · rw [hb2] at q ⊢
        rw [eS] at q
        cases q
        refine ⟨by rw [List.length_map]; omega, acc.toList, c, by rw [hacc]; exact LiI.vals_refs as, ?_⟩
        rw [Array.toArray_toList]
        exact hS
      · rw [off b hb hb2] at q
        exact (I.hok b u q).stay (fun d v _ y => hk d v y) (fun d y => kp d _ y) fun d xs y => kp d _ y
theorem mx_ent {pins : List (Addr × Obj)} {σ : L2.St} {H : Hp} {s : Shared} {d : Addr} {es : List EntM} (I : L2.Inv X pins σ H s) (m : MxAt X.prog X.w X.K H d es) : (d == sysModules) = false ∧ es.length ≤ sizeLine ∧ ∃ (ens : Array DictEntry) (ep : Nat), s.heap.DictRaw d ens ep ∧ ens.size = es.length ∧
    ∀ (i : Nat) (e : EntM), es[i]? = some e → ∃ en : DictEntry, ens[i]? = some en ∧ RelV e.2.1 en.key ∧ RelV e.2.2 en.val := by
  obtain ⟨hs, hz, xs, r, ⟨o, ens, ep, ho, hx, hd, he, _⟩, _⟩ := mx_rd I m
  refine ⟨hs, hz, ens, ep, ⟨o, ho, hx, hd⟩, by rw [nE_size he]; exact (show Paired _ _ _ from r).length.symm, fun i e hi => ?_⟩
  obtain ⟨x, hx', r1, r2⟩ := r.at hi
  exact ⟨nE X.w x, by rw [nE_at he, hx']; rfl, r1, r2⟩
/-- list(e.items()) -/
def tListItemsM (P : Program) (w : World) (K : PySem.W.Frag) (te : TE) : TE := fun σ H Q => te σ H fun x H1 => ∃ (d : Addr) (es : List EntM), x = .ref d ∧ MxAt P w K H1 d es ∧
  ∀ (H' : Hp) (p : Addr) (ts : List Addr), Same H1 H' → H1 p = none → (∀ t ∈ ts, H1 t = none) → p ∉ ts → H' p = some (.lst (ts.map V.ref)) → Paired (fun (t : Addr) (q : V × V) => H' t = some (.tup [q.1, q.2])) ts (pairM es) → (∀ b, b ∉ ts → b ≠ p → H' b = H1 b) → Q (.ref p) H'
theorem pe_listItemsM (hc : X.calm = true) (he : PE X e te) (hg : Gl X "list") (hm : X.mg "list" = none) (hv : bootBuiltins "list" = some (.type "list")) (hbase : attributeBase e "items" X.env (eval e X.env) = eval e X.env := by rfl) (hline : (apos.endLine == cpos.line) = true := by rfl)
    (hs : starEach [.Call (.Attribute e "items" apos) [] [] cpos] X.env = (false, eval (.Call (.Attribute e "items" apos) [] [] cpos) X.env) :: starEach [] X.env := by rfl) :
    PE X (.Call (.Name "list" p) [.Call (.Attribute e "items" apos) [] [] cpos] [] pos) (tListItemsM X.prog X.w X.K te) := by
  refine ⟨fun pins s σ H Q I hq => ?_⟩
  refine wpAny_Call_Name_kw (ld_blt I hg hm hv ?_)
  refine PyProof.Rows.callWith_type1 ?_ hs rfl
  rw [hs]
  show wpAny _ _ (spliced ((false, eval (.Call (.Attribute e "items" apos) [] [] cpos) X.env) :: backTo pos (starEach [] X.env))) _ _ s
  refine Calls.spliced_cons ?_
  refine wpAny_Call_method (T := "dict") (id := "dict.items") hbase rfl hline PySem.F.plainAttrs_dict PySem.F.slot_dict_items PySem.F.type_dict_items (thn (he.run pins s σ H _ I hq) fun u s1 ⟨x, H1, I1, rx, d, es, ex, m, q⟩ => ?_)
  subst ex
  obtain rfl : u = Value.ref d := rx
  obtain ⟨hs0, hz, ens, ep, raw, hsz, ent⟩ := mx_ent I1 m
  have raw' := raw
  obtain ⟨o, ho, hx, hdt⟩ := raw'
  have I2 : L2.Inv X pins σ H1 { s1 with heap := s1.heap.push { cls := .type "dict_items", data := .fields #[.ref d] } } := I1.kept (t' := s1.toks) fun b ob q => Heap.get?_push_of_some _ q
  refine ⟨raw.typeIs, (fun a q => by cases q; exact ⟨o, ho, hx.2.1⟩), ?_⟩
  show wpAny _ _ (callWith cpos (.builtin "dict.items") [.ref d] [] []) _ X.xe s1
  refine method_meetsIn PySem.F.slot_dict_items PySem.F.entry_dict_items rfl (PySem.evalArgs_none ⟨rfl, raw.typeIs, PySem.F.args_dict_items_1 _, _, DT.meetsItems (es := ens) (ep := ep) hs0, ⟨⟨o, ho, hx, hdt⟩, ?_⟩⟩)
  refine Calls.spliced_nil ?_
  refine PySem.W.dil_call (es := ens) (ep := ep) (d := d) (I1.ok.hd hc) ⟨_, Heap.get?_push_size _ rfl, rfl, rfl⟩ (raw.push _) (by omega) fun h' tk acc c as hk hS hl hG hacc => ?_
  obtain ⟨H', k1, k2, k3, k4, k5, k6, k7, J⟩ := itemsM_laid (tk := tk) I2 hz hsz ent hk hS hl hG hacc
  exact ⟨.ref _, H', J, rfl, q H' _ as k1 k2 k3 k4 k5 k6 k7⟩
end
end L3
namespace L3
open PySem PySem.Spec PyProof.Rows L2
open Sem (wp)
inductive DpM (P : Program) (w : World) (K : PySem.W.Frag) (H : Hp) : V → PyData → Prop
  | data {v : V} {d : PyData} : DpD K H v d → DpM P w K H v d
  | mx {a : Addr} {es : List EntM} {ds : List PyData} {kd : List (PyData × PyData)} : MxN P w K H a es → DpDs K H (es.map (·.2.2)) ds → kd = (es.map (·.1)).zip ds → DpM P w K H (.ref a) (.dict kd)
/-- a dict of data reads as one with keys of several kinds -/
theorem DpM.dict {P : Program} {w : World} {K : PySem.W.Frag} {H : Hp} {v : V} {kd : List (PyData × PyData)} (h : DpM P w K H v (.dict kd)) :
    ∃ (a : Addr) (es : List EntM) (ds : List PyData), v = .ref a ∧ MxN P w K H a es ∧ DpDs K H (es.map (·.2.2)) ds ∧ kd = (es.map (·.1)).zip ds := by
  generalize e : PyData.dict kd = d at h
  cases h with
  | mx m hs hk => cases e; exact ⟨_, _, _, rfl, m, hs, hk⟩
  | data h =>
    cases h with
    | data h => subst e; cases h
    | lst h t => cases e
    | tup h t => cases e
    | @dct a kvs ds kd' h t z =>
      cases e
      refine ⟨_, dkM kvs, ds, rfl, .dk h, ?_, ?_⟩
      · have : (dkM kvs).map (·.2.2) = kvs.map (·.2) := by unfold dkM; rw [List.map_map]; rfl
        rw [this]
        exact t
      · have : (dkM kvs).map (·.1) = kvs.map fun kv => keyD kv.1 := by unfold dkM; rw [List.map_map]; rfl
        rw [this]
        exact z
/-- a value's type -/
def TyM (P : Program) (w : World) (K : PySem.W.Frag) (H : Hp) (v : V) (t : Value) : Prop := TyX K H v t ∨ ∃ a es, v = .ref a ∧ MxAt P w K H a es ∧ t = .type "dict"
theorem DpM.ty {P : Program} {w : World} {K : PySem.W.Frag} {H : Hp} {v : V} {d : PyData} (h : DpM P w K H v d) : TyM P w K H v (.type (tyD d)) := by
  cases h with
  | data h => exact .inl (tyx_dpD h)
  | mx m _ _ => exact .inr ⟨_, _, rfl, m.at, rfl⟩
def rIsiM (P : Program) (w : World) (K : PySem.W.Frag) : List V → Hp → VK → Prop := fun xs H Q => ∃ (x c : V) (t u : Value) (b : Bool), xs = [x, c] ∧ ClsV c u ∧ TyM P w K H x t ∧ PySem.W.kitOne K t u = some b ∧ Q (.bl b) H
def rReprM (P : Program) (w : World) (K : PySem.W.Frag) : List V → Hp → VK → Prop := fun xs H Q => ∃ (v : V) (d : PyData), xs = [v] ∧ DpM P w K H v d ∧ d.showable = true ∧ d.shown.length ≤ sizeLine ∧ d.depth ≤ 50 ∧ Q (.str d.shown) H
section
variable {X : Cx} {pins : List (Addr × Obj)} {σ : L2.St} {H : Hp} {s : Shared}
theorem kit_ofM {x : V} {u t : Value} (I : L2.Inv X pins σ H s) (rx : RelV x u) (ty : TyM X.prog X.w X.K H x t) : ∃ P : Heap → Prop, PySem.W.KitX X.K u t P ∧ P s.heap ∧ u ≠ .builtin "__main__.__loader__#opaque" := by
  rcases ty with ty | ⟨a, es, rfl, m, rfl⟩
  · exact kit_of I rx ty
  · cases (show u = Value.ref a from rx)
    obtain ⟨_, _, _, _, ⟨o, _, _, h1, h2, _⟩, _⟩ := mx_rd I m
    exact ⟨_, PySem.W.kitx_dict, ⟨o, h1, h2.1⟩, fun z => nomatch z⟩
theorem call_isiM : CallR X (.builtin "isinstance") (rIsiM X.prog X.w X.K) := by
  intro pins s σ H xs us Q I r h
  obtain ⟨x, c, t, u, b, rfl, k, ty, e, q⟩ := h
  obtain ⟨u1, u2, rfl, r1, r2⟩ := vals2 r
  have e2 := k.eq r2
  subst e2
  obtain ⟨P, Z, p, hx⟩ := kit_ofM I r1 ty
  exact PySem.W.kia_one Z I.kIn p e hx fun tk => ⟨.bl b, H, I.tok tk, rfl, q⟩
theorem ent_ofM (I : L2.Inv X pins σ H s) : ∀ {es : List EntM} {xs : List NE}, KM es xs → KeysM X.K H es → (∃ as, ReadsAll s.heap ((xs.map (nE X.w)).map (·.key)) (es.map (·.1)) as) ∧ Vals (es.map (·.2.2)) ((xs.map (nE X.w)).map (·.val))
  | _, _, .nil, _ => ⟨⟨_, .nil⟩, .nil⟩
  | e :: es, x :: xs, .cons ⟨_, h2, h3⟩ r, hk => by
    obtain ⟨⟨as, ra⟩, rv⟩ := ent_ofM I r fun z hz => hk z (List.mem_cons_of_mem _ hz)
    obtain ⟨a1, r1⟩ := Dp.reads I e.1 _ _ (hk e List.mem_cons_self).1 h2
    exact ⟨⟨_, .cons r1 ra⟩, .cons h3 rv⟩
theorem keys_noDict {K : PySem.W.Frag} {H : Hp} : ∀ {es : List EntM}, KeysM K H es → PyData.hasDictAll (es.map (·.1)) = false
  | [], _ => rfl
  | e :: es, h => by
    rw [List.map_cons, PyData.hasDictAll, dp_noDict (h e List.mem_cons_self).1, keys_noDict fun z hz => h z (List.mem_cons_of_mem _ hz)]
    rfl
theorem call_reprM (hu : X.A.units + 60 < cLine) (hG : X.A.guards = some []) : CallR X (.builtin "repr") (rReprM X.prog X.w X.K) := by
  intro pins s σ H xs us Q I r h
  obtain ⟨v, d, rfl, hd, sh, sz, dp, q⟩ := h
  cases hd with
  | data hd => exact call_reprA hu hG pins s σ H _ us Q I r ⟨v, d, rfl, hd, sh, sz, dp, q⟩
  | @mx a es ds kd m hs hk =>
    rw [Vals.ref1 r]
    have fin : ∀ (h' : Heap) (t tk : Tok), (∀ b o, s.heap.get? b = some o → h'.get? b = some o) → EP X pins σ Q (.str (PyData.dict kd).shown t) { s with heap := h', toks := tk } := fun h' t tk hk => ⟨.str _, H, I.kept hk, ⟨_, rfl⟩, q⟩
    have hl : es.length = ds.length := by rw [← hs.len, List.length_map]
    obtain ⟨sys, z, xs, rel, ⟨o, ens, ep, ho, hex, hd, hens, hnd⟩, _⟩ := mx_rd I m.at
    obtain ⟨⟨as, rk⟩, rv⟩ := ent_ofM I rel m.2
    rw [← hens] at rk rv
    obtain ⟨⟨bs, rb⟩, ks⟩ := rks_of I hs rv
    have hlen : (es.map (·.1)).length = ds.length := by rw [List.length_map, hl]
    have f1 := zip_fstD hlen
    have f2 := zip_sndD hlen
    rw [← hk] at f1 f2
    have nk := keys_noDict m.2
    rw [← f1] at rk nk
    rw [← f2] at rb ks
    have r : Reads s.heap (.ref a) (.dict kd) (a :: as ++ bs) := .dict ho hex.1 hd rk rb
    have sz' : (dictText (PyData.shownKv kd)).length ≤ sizeLine := by simpa only [PyData.shown] using sz
    obtain ⟨h1, h2⟩ := PyData.showableKv_split kd (by simpa [PyData.showable] using sh)
    obtain ⟨b1, m1, k1⟩ := ReprAllK.of_readsAll (prog := X.prog) (w := X.w) rk h1 (fun q => by rw [nk] at q; cases q) fun t ht => by
      obtain ⟨p, hp, le⟩ := PyData.shownKv_key_le kd t ht
      exact Nat.le_trans le (Nat.le_trans (dictText_mem_le hp) sz')
    obtain ⟨b2, m2, k2⟩ := ks h2 fun t ht => by
      obtain ⟨p, hp, le⟩ := PyData.shownKv_val_le kd t ht
      exact Nat.le_trans le (Nat.le_trans (dictText_mem_le hp) sz')
    have mm : ReadAtMost s.heap (PyData.depthKv kd) (b1 ++ b2) := (m1.mono (PyData.depthAll_keys_le kd)).append (m2.mono (PyData.depthAll_vals_le kd))
    have out : a ∉ b1 ++ b2 := not_mem_of_deeper r (by simp only [PyData.depth]; omega) mm
    simp only [PyData.depth] at dp
    simp only [PyData.shown, PyData.shownKv_eq] at fin
    refine call_repr_slot (by omega) ⟨o, ho, hex.1⟩ F.slot_dict_repr ?_
    refine call_dict_reprK ho hex.1 hd sys out (ReprEntriesK.of_two ens.toList _ _ (k1.more_le (fun b q => List.mem_append_left _ q) (PyData.depthAll_keys_le kd)) (k2.more_le (fun b q => List.mem_append_right _ q) (PyData.depthAll_vals_le kd))) hG (fun b _ => Clear.nil b) ?_ (fun _ _ e => e) (fun h' u tk hk => ⟨_, _, rfl, fin _ _ _ hk⟩) (by rw [← PyData.shownKv_eq]; exact sz')
    show X.A.units + 1 + (PyData.depthKv kd + 1) < cLine
    omega
end
end L3
namespace L3
open PySem PySem.Spec PyProof.Rows L2
section
variable {X : Cx} {P : Program} {w : World} {K : PySem.W.Frag} {o i e tg : Expr} {pos p apos cpos : Pos} {td ty te : TE}
theorem pe_mgetK (hP : X.prog = P) (hw : X.w = w) (hK : X.K = K) (hu : X.A.units + 64 < cLine) (ho : PE X o td) (hi : PE X i ty) (hs : L2.NoSl i) : PE X (.Subscript o i pos) (tMGet P w K td ty) := by
  subst hP hw hK; exact pe_mget hu ho hi hs
theorem pc_minK (hP : X.prog = P) (hw : X.w = w) (hK : X.K = K) (hu : X.A.units + 64 < cLine) (hi : PE X i ty) (ho : PE X o td) : PC X .In i o (tMIn P w K ty td) := by
  subst hP hw hK; exact pc_min hu hi ho
theorem call_isiMK (hP : X.prog = P) (hw : X.w = w) (hK : X.K = K) : CallR X (.builtin "isinstance") (rIsiM P w K) := by
  subst hP hw hK; exact call_isiM
theorem call_reprMK (hP : X.prog = P) (hw : X.w = w) (hK : X.K = K) (hu : X.A.units + 60 < cLine) (hG : X.A.guards = some []) : CallR X (.builtin "repr") (rReprM P w K) := by
  subst hP hw hK; exact call_reprM hu hG
def rLenM (P : Program) (w : World) (K : PySem.W.Frag) : List V → Hp → VK → Prop := fun xs H Q => ∃ (a : Addr) (es : List EntM), xs = [.ref a] ∧ MxAt P w K H a es ∧ Q (.int (es.length : Int)) H
theorem cr_lenMK (hP : X.prog = P) (hw : X.w = w) (hK : X.K = K) : CallR X (.builtin "len") (rLenM P w K) := by
  subst hP hw hK; exact cr_lenM
def rDictM (P : Program) (w : World) (K : PySem.W.Frag) : List V → Hp → VK → Prop := fun vs H Q => ∃ (l : Addr) (ts : List Addr) (ps : List EntM), vs = [.ref l] ∧ SqL K H l (ts.map V.ref) ∧ Paired (fun (t : Addr) (p : EntM) => SqT K H t [p.2.1, p.2.2]) ts ps ∧ KeysM K H ps ∧
    (ps.map fun p => keyN p.1).Nodup ∧ ∀ a, H a = none → Q (.ref a) (upd H a (TM P w a ps))
theorem cr_dictMK (hP : X.prog = P) (hw : X.w = w) (hK : X.K = K) (hc : X.calm = true) (hu : X.A.units + 64 < cLine) : CallR X (.type "dict") (rDictM P w K) := by
  subst hP hw hK; exact cr_dictM hc hu
theorem pi_keysXK (hP : X.prog = P) (hw : X.w = w) (he : PE X e td) : PI X tg e (iKeysX P w td) := by
  subst hP hw; exact pi_keysX he
theorem pi_valsXK (hP : X.prog = P) (hw : X.w = w) (he : PE X e td) (hbase : attributeBase e "values" X.env (eval e X.env) = eval e X.env := by rfl) (hline : (apos.endLine == cpos.line) = true := by rfl) : PI X tg (.Call (.Attribute e "values" apos) [] [] cpos) (iValsX P w td) := by
  subst hP hw; exact pi_valsX he hbase hline
theorem pe_listItemsMK (hP : X.prog = P) (hw : X.w = w) (hK : X.K = K) (hc : X.calm = true) (he : PE X e te) (hg : Gl X "list") (hm : X.mg "list" = none) (hv : bootBuiltins "list" = some (.type "list")) (hbase : attributeBase e "items" X.env (eval e X.env) = eval e X.env := by rfl) (hline : (apos.endLine == cpos.line) = true := by rfl)
    (hs : starEach [.Call (.Attribute e "items" apos) [] [] cpos] X.env = (false, eval (.Call (.Attribute e "items" apos) [] [] cpos) X.env) :: starEach [] X.env := by rfl) :
    PE X (.Call (.Name "list" p) [.Call (.Attribute e "items" apos) [] [] cpos] [] pos) (tListItemsM P w K te) := by
  subst hP hw hK; exact pe_listItemsM hc he hg hm hv hbase hline hs
end
theorem walk_mk {d : Addr} {o : Obj} {u : HO} {es : List EntM} : Walk (Itmk d o u es) es.length (fun H => H d = some (.frz o u)) (fun i H x H' => H' = H ∧ ∃ e, es[i]? = some e ∧ x = e.2.1) :=
  ⟨fun _ _ hi q => ⟨q, hi⟩, fun _ q => ⟨q, Nat.le_refl _⟩, fun _ _ _ _ _ _ y => y⟩
theorem walk_mv {d : Addr} {o : Obj} {u : HO} {es : List EntM} : Walk (Itmv d o u es) es.length (fun H => H d = some (.frz o u)) (fun i H x H' => H' = H ∧ ∃ e, es[i]? = some e ∧ x = e.2.2) :=
  ⟨fun _ _ hi q => ⟨q, hi⟩, fun _ q => ⟨q, Nat.le_refl _⟩, fun _ _ _ _ _ _ y => y⟩
end L3
namespace Lw
open PySem PySem.Spec PyProof.Rows L3
open L2 hiding del del_same del_ne
/-- letters -/
structure Lets (sg : List Nat) : Prop where
  ne : 0 < sg.length
  few : sg.length ≤ 3
  up : sg.Pairwise (· < ·)
  az : ∀ c ∈ sg, 97 ≤ c ∧ c ≤ 122
theorem small_codes : (("abcdefghijklmnopqrstuvwxyz" : Str)).cps.toList = (List.range 26).map (· + 97) := by decide +kernel
theorem small_mem {c : Nat} (h : 97 ≤ c ∧ c ≤ 122) : c ∈ (("abcdefghijklmnopqrstuvwxyz" : Str)).cps.toList := by
  rw [small_codes]
  exact List.mem_map.mpr ⟨c - 97, List.mem_range.mpr (by omega), by omega⟩
theorem sz {n : Nat} (h : n ≤ 100000) : n ≤ sizeLine := by rw [sizeLine_eq]; omega
theorem ite_f {b : Bool} {p q : Prop} (e : b = false) (h : q) : if b = true then p else q := by rw [e]; exact h
theorem ite_t {b : Bool} {p q : Prop} (e : b = true) (h : p) : if b = true then p else q := by rw [e]; exact h
theorem u64 {k : Nat} {A : Around} (hr : Room k A) : A.units + 64 < cLine := by have := hr.units; omega
/-- rows: a list or a tuple of lists or tuples of numbers -/
def Rw (K : PySem.W.Frag) (H : Hp) (v : V) (R : List (List Nat)) : Prop := ∃ xs, Sq K H v xs ∧ xs.length = R.length ∧ ∀ (i : Nat) (x : V) (r : List Nat), xs[i]? = some x → R[i]? = some r → Sq K H x (nV r)
theorem Rw.same {K : PySem.W.Frag} {H H' : Hp} {v : V} {R : List (List Nat)} (h : Rw K H v R) (s : Same H H') : Rw K H' v R := by
  obtain ⟨xs, a, b, c⟩ := h
  exact ⟨xs, a.same s, b, fun i x r h1 h2 => (c i x r h1 h2).same s⟩
section
variable {P : Program} {w : World} {K : PySem.W.Frag} {mg : Str → Option Value} {base : Heap}
def spIsText : Sp := fun vs H Q _ => ∃ l, vs = [tx l] ∧ (∀ c ∈ l, 97 ≤ c ∧ c ≤ 122) ∧ l.length ≤ 1000 ∧ ∀ H', Same H H' → Q (.bl true) H'
theorem ok_is_text (T : All K mg) : FnOk P w K mg base CX0 1 T.f_is_text T.d_is_text ["value"] spIsText := by
  refine T.is_text.F.ok sc_is_text (fun vs H Q E h => ?_) (fun cdv A outer s H vs Q E hr h => ?_)
  · obtain ⟨l, rfl, _⟩ := h
    rfl
  · obtain ⟨l, rfl, hl, hz, q⟩ := h
    obtain ⟨ts, hSMALL⟩ := T.c_SMALL
    refine ⟨_, pss_one (ps_ret (pe_and (pe_callB call_isi (by rfl) T.b_isinstance boot_isinstance (pa_cons (pv 0) (pa_cons (pe_bltn (v := .ty "str") (by rfl) T.b_str (by decide +kernel) rfl) pa_nil)))
        (pe_one (pe_callB (cr_all rfl) (by rfl) T.b_all PyProof.Rows.boot_all (pa_cons (pe_lc (own := [("sign", 1)]) (g := gName 1) (tt := tYes) rfl sc_is_text.nd (pi_str (pv 0))
          (blkOk_by (own := [("sign", 1)]) (N := ["value", "sign"]) (sc := defScope s_is_text) (by decide +kernel))
          (fun _ _ _ _ _ => pg_name (i := 1) sc_is_text.nd rfl (by first | exact Or.inl rfl | exact Or.inr rfl)) (fun _ _ _ _ _ => pts_nil)
          (fun _ _ _ _ _ => (pe_cmpR op_in_sign (pv 1) (pe_glob (v := .str "abcdefghijklmnopqrstuvwxyz") rfl hSMALL ⟨_, rfl⟩) (by rfl)))) pa_nil))))), ?_⟩
    refine ⟨tx l, rfl, tx l, .ty "str", .type "str", .type "str", true, rfl, .ty _, .base (.str _), kit_ty (by decide +kernel), true, rfl, iteT ?_⟩
    refine ⟨tx l, rfl, tS l, rfl, fun D nD => ?_⟩
    refine lc_gen walk_tx (Same H) (fun i acc => acc = List.replicate i (.bl true)) (sz (by omega)) (fun i acc e => by rw [e]; simp) rfl (same_upd nD) (fun _ _ h => same_up h nD) (fun _ _ => trivial) (fun i x H2 H3 acc C N hi r hD ha y c n => ?_) (fun H2 xs r hD ha => ?_)
    · obtain ⟨rfl, ch, hc, rfl⟩ := y
      refine ⟨rfl, yes_te ?_⟩
      refine ⟨_, rfl, ch, _, rfl, rfl, ?_⟩
      rw [decide_eq_true (small_mem (hl ch (List.mem_of_getElem? hc)))]
      exact c _ _ r hD (by rw [ha, List.replicate_succ'])
    · refine ⟨D, List.replicate l.length true, rfl, .inl (.inl ?_), ?_⟩
      · rw [hD, ha]
        simp
      · have e : (List.replicate l.length true).all id = true := by simp
        rw [e]
        exact q _ r
theorem sort_lets {sg : List Nat} (up : sg.Pairwise (· < ·)) {L : List (List Nat)} (hp : L.Perm (lets sg)) (hs : L.Pairwise (· < ·)) : L = sg.map fun c => [c] := by
  have h2 : (sg.map fun c => [c]).Pairwise (· < ·) := by
    rw [List.pairwise_map]
    refine up.imp fun h => ?_
    exact List.cons_lt_cons_iff.mpr (.inl h)
  have hn1 : L.Nodup := hs.imp fun h e => by subst e; exact absurd h (List.lt_irrefl _)
  have hn2 : (sg.map fun c => [c]).Nodup := h2.imp fun h e => by subst e; exact absurd h (List.lt_irrefl _)
  have hp2 : L.Perm (sg.map fun c => [c]) := by
    refine (List.perm_ext_iff_of_nodup hn1 hn2).mpr fun x => ?_
    rw [hp.mem_iff, lets_mem, List.mem_map]
    exact ⟨fun ⟨c, h1, h2⟩ => ⟨c, h1, h2.symm⟩, fun ⟨c, h1, h2⟩ => ⟨c, h1, h2.symm⟩⟩
  exact hp2.eq_of_pairwise (fun a b _ _ h1 h2 => absurd (List.lt_trans h1 h2) (List.lt_irrefl _)) hs h2
def spAreLetters : Sp := fun vs H Q _ => ∃ sg, vs = [tx sg] ∧ Lets sg ∧ ∀ H', Same H H' → Q (.bl true) H'
theorem ok_are_letters (T : All K mg) : FnOk P w K mg base CX0 2 T.f_are_letters T.d_are_letters ["value"] spAreLetters := by
  refine T.are_letters.F.ok sc_are_letters (fun vs H Q E h => ?_) (fun cdv A outer s H vs Q E hr h => ?_)
  · obtain ⟨l, rfl, _⟩ := h
    rfl
  · obtain ⟨sg, rfl, hl, q⟩ := h
    obtain ⟨ts, hMOST_LETTERS⟩ := T.c_MOST_LETTERS
    have hz : sg.length ≤ sizeLine := sz (by have := hl.few; omega)
    refine ⟨_, pss_cons (ps_if (PW.pt (pw_or (pt_not (pt_val (pe_call (ok_is_text T) (hr.mono (by decide)) (by rfl) T.is_text.g T.is_text.F.kp T.is_text.b .nil pass0 (pa_cons (pv 0) pa_nil)))) (pw_or1 (pt_not (pt_chain op_le op_le pe_int (pe_callB call_lenT (by rfl) T.b_len PySem.boot_len (pa_cons (pv 0) pa_nil)) (pe_glob (v := .int 3) rfl hMOST_LETTERS ⟨_, rfl⟩)))))) (pss_one (ps_ret pe_bl)) pss_nil)
      (pss_one (ps_ret (pe_cmpR (op_eqD (u64 hr)) (pe_callTy (call_listT rfl) (by rfl) T.b_list PyProof.Rows.boot_list (pa_cons (pv 0) pa_nil)) (pe_callB (cr_sortSetT rfl) (by rfl) T.b_sorted PyProof.Rows.boot_sorted (pa_cons (pe_callTy (cr_setT rfl) (by rfl) T.b_set (show bootBuiltins "set" = some (.type "set") by decide +kernel) (pa_cons (pv 0) pa_nil)) pa_nil)) (by rfl)))), ?_⟩
    refine ⟨_, rfl, sg, rfl, hl.az, by have := hl.few; omega, fun H1 s1 => ?_⟩
    refine ⟨true, rfl, iteF ?_⟩
    have e1 : decide ((1 : Int) ≤ (sg.length : Int)) = true := decide_eq_true (by have := hl.ne; omega)
    have e2 : decide ((sg.length : Int) ≤ 3) = true := decide_eq_true (by have := hl.few; omega)
    refine ⟨_, rfl, sg, rfl, hz, _, _, rfl, rfl, _, rfl, ?_⟩
    rw [e1]
    refine iteT ⟨_, _, rfl, rfl, true, congrArg V.bl e2, iteF ?_⟩
    refine ⟨_, rfl, sg, rfl, hz, fun p np => ?_⟩
    refine ⟨_, rfl, sg, rfl, by have := hl.few; omega, fun p2 np2 => ?_⟩
    refine ⟨p2, _, rfl, upd_same, fun L p3 hp hs np3 => ?_⟩
    have eL := sort_lets hl.up hp hs
    subst eL
    have s2 := same_up (o := .lst (sg.map fun c => tx [c])) s1 (s1.free np)
    have n1 : p ≠ p2 := fun e => by subst e; rw [upd_same] at np2; cases np2
    have n2 : p ≠ p3 := fun e => by subst e; rw [upd_ne n1, upd_same] at np3; cases np3
    have w : ∀ d ∈ dTx (sg.map fun c => [c]), Wt d 1 0 := fun d hd => by
      unfold dTx at hd
      rw [List.map_map] at hd
      obtain ⟨c, hc, rfl⟩ := List.mem_map.mp hd
      refine Wt.text (fun x hx => ?_) (by simp)
      rw [List.mem_singleton.mp hx]
      have := hl.az c hc
      omega
    have sh := (Wt.list w (Nat.le_refl _)).shaped (by decide)
    refine ⟨.list (dTx (sg.map fun c => [c])), .list (dTx (sg.map fun c => [c])), .lst (xs := (sg.map fun c => [c]).map tx) (.inl (.inl ?_)) (dp_txs _), .lst (xs := (sg.map fun c => [c]).map tx) (.inl (.inl upd_same)) (dp_txs _), sh, sh, ?_⟩
    · rw [upd_ne n2, upd_ne n1, upd_same, List.map_map]
      rfl
    · have e : PyData.eqv (.list (dTx (sg.map fun c => [c]))) (.list (dTx (sg.map fun c => [c]))) = true := by
        show PyData.eqvAll _ _ = true
        unfold dTx
        rw [eqv_map (α := List Nat) _ (fun a b => ?_) _ _]
        · exact decide_eq_true rfl
        · show (tS a == tS b) = _
          by_cases h : a = b
          · subst h; simp
          · rw [decide_eq_false h]; exact beq_eq_false_iff_ne.mpr fun z => h (tS_inj z)
      rw [e]
      refine q _ (same_up (same_up s2 ?_) ?_)
      · exact s2.free np2
      · exact (same_up s2 (s2.free np2)).free np3
def spTextOver (K : PySem.W.Frag) : Sp := fun vs H Q _ => ∃ sg v, vs = [tx sg, v] ∧ ((∃ t, v = tx t ∧ t.length ≤ 2000 ∧ ∀ H', Same H H' → Q (.bl (t.all fun c => decide (c ∈ sg))) H') ∨ (∃ ty, TyX K H v (.type ty) ∧ kitB ty "str" = some false ∧ Q (.bl false) H))
theorem ok_is_text_over (T : All K mg) : FnOk P w K mg base CX0 1 T.f_is_text_over T.d_is_text_over ["letters", "value"] (spTextOver K) := by
  refine T.is_text_over.F.ok sc_is_text_over (fun vs H Q E h => ?_) (fun cdv A outer s H vs Q E hr h => ?_)
  · obtain ⟨l, v, rfl, _⟩ := h
    rfl
  · obtain ⟨sg, v, rfl, h⟩ := h
    refine ⟨_, pss_one (ps_ret (pe_and (pe_callB call_isi (by rfl) T.b_isinstance boot_isinstance (pa_cons (pv 1) (pa_cons (pe_bltn (v := .ty "str") (by rfl) T.b_str (by decide +kernel) rfl) pa_nil)))
        (pe_one (pe_callB (cr_all rfl) (by rfl) T.b_all PyProof.Rows.boot_all (pa_cons (pe_lc (own := [("sign", 2)]) (g := gName 2) (tt := tYes) rfl sc_is_text_over.nd (pi_str (pv 1))
          (blkOk_by (own := [("sign", 2)]) (N := ["letters", "value", "sign"]) (sc := defScope s_is_text_over) (by decide +kernel))
          (fun _ _ _ _ _ => pg_name (i := 2) sc_is_text_over.nd rfl (by first | exact Or.inl rfl | exact Or.inr rfl)) (fun _ _ _ _ _ => pts_nil)
          (fun _ _ _ _ _ => (pe_cmpR op_in_sign (pv 2) (pv 0) (by rfl)))) pa_nil))))), ?_⟩
    rcases h with ⟨t, rfl, hz, q⟩ | ⟨ty, hty, hk, q⟩
    · refine ⟨tx t, rfl, tx t, .ty "str", .type "str", .type "str", true, rfl, .ty _, .base (.str _), kit_ty (by decide +kernel), true, rfl, iteT ?_⟩
      refine ⟨tx t, rfl, tS t, rfl, fun D nD => ?_⟩
      refine lc_gen walk_tx (Same H) (fun i acc => acc = ((t.take i).map fun c => decide (c ∈ sg)).map V.bl) (sz (by omega)) (fun i acc e => by rw [e]; simp; omega) rfl (same_upd nD) (fun _ _ h => same_up h nD) (fun _ _ => trivial) (fun i x H2 H3 acc C N hi r hD ha y c n => ?_) (fun H2 xs r hD ha => ?_)
      · obtain ⟨rfl, ch, hc, rfl⟩ := y
        refine ⟨rfl, yes_te ?_⟩
        refine ⟨_, rfl, _, rfl, ch, tS sg, rfl, rfl, ?_⟩
        refine c _ _ r hD ?_
        rw [ha, List.take_add_one, hc]
        simp [tS]
      · subst ha
        rw [List.take_length] at hD
        refine ⟨D, t.map fun c => decide (c ∈ sg), rfl, .inl (.inl hD), ?_⟩
        have e : (t.map fun c => decide (c ∈ sg)).all id = t.all fun c => decide (c ∈ sg) := by rw [List.all_map]; rfl
        rw [e]
        exact q _ r
    · refine ⟨v, rfl, v, .ty "str", .type ty, .type "str", false, rfl, .ty _, hty, kit_ty hk, false, rfl, iteF q⟩
end
def isListD : PyData → Bool
  | .list _ => true
  | .tuple _ => true
  | _ => false
/-- texts are not too long -/
def shortD : PyData → Prop
  | .str x => x.cps.toList.length ≤ 1000
  | _ => True
theorem kb_str {d : PyData} (h : ∀ x, d ≠ .str x) : kitB (tyD d) "str" = some false := by
  cases d with
  | str x => exact absurd rfl (h x)
  | _ => simp only [tyD]; decide +kernel
theorem dpd_text {K : PySem.W.Frag} {H : Hp} {v : V} {x : Str} (h : DpD K H v (.str x)) : v = tx x.cps.toList := by
  rw [h.str_inv]
theorem sqL_ext {K : PySem.W.Frag} {H H' : Hp} {a : Addr} {xs : List V} (h : SqL K H a xs) (e : LamX.ExtN H H') : SqL K H' a xs := by
  rcases h with (h | ⟨o, h⟩) | h
  · exact .inl (.inl (e _ _ h (fun ps z => by cases z)))
  · exact .inl (.inr ⟨o, e _ _ h (fun ps z => by cases z)⟩)
  · exact .inr h
theorem sqT_ext {K : PySem.W.Frag} {H H' : Hp} {a : Addr} {xs : List V} (h : SqT K H a xs) (e : LamX.ExtN H H') : SqT K H' a xs := by
  rcases h with (h | ⟨o, h⟩) | h
  · exact .inl (.inl (e _ _ h (fun ps z => by cases z)))
  · exact .inl (.inr ⟨o, e _ _ h (fun ps z => by cases z)⟩)
  · exact .inr h
mutual
theorem dp_ext {K : PySem.W.Frag} {H H' : Hp} (e : LamX.ExtN H H') : ∀ {v : V} {d : PyData}, Dp K H v d → Dp K H' v d
  | _, _, .non => .non
  | _, _, .bl b => .bl b
  | _, _, .int i => .int i
  | _, _, .str x => .str x
  | _, _, .lst h a => .lst (sqL_ext h e) (dpAll_ext e a)
  | _, _, .tup h a => .tup (sqT_ext h e) (dpAll_ext e a)
theorem dpAll_ext {K : PySem.W.Frag} {H H' : Hp} (e : LamX.ExtN H H') : ∀ {vs : List V} {ds : List PyData}, DpAll K H vs ds → DpAll K H' vs ds
  | _, _, .nil => .nil
  | _, _, .cons a b => .cons (dp_ext e a) (dpAll_ext e b)
end
mutual
theorem dpD_ext {K : PySem.W.Frag} {H H' : Hp} (e : LamX.ExtN H H') : ∀ {v : V} {d : PyData}, DpD K H v d → DpD K H' v d
  | _, _, .data h => .data (dp_ext e h)
  | _, _, .lst h t => .lst (sqL_ext h e) (dpDs_ext e t)
  | _, _, .tup h t => .tup (sqT_ext h e) (dpDs_ext e t)
  | _, _, .dct h t z => .dct (e _ _ h (fun ps z => by cases z)) (dpDs_ext e t) z
theorem dpDs_ext {K : PySem.W.Frag} {H H' : Hp} (e : LamX.ExtN H H') : ∀ {vs : List V} {ds : List PyData}, DpDs K H vs ds → DpDs K H' vs ds
  | _, _, .nil => .nil
  | _, _, .cons h t => .cons (dpD_ext e h) (dpDs_ext e t)
end
theorem dpd_same {K : PySem.W.Frag} {H H' : Hp} {v : V} {d : PyData} (h : DpD K H v d) (s : Same H H') : DpD K H' v d := dpD_ext (LamX.ExtN.of s) h
section
variable {P : Program} {w : World} {K : PySem.W.Frag} {mg : Str → Option Value} {base : Heap}
def isLsD : PyData → Bool
  | .list _ => true
  | _ => false
def isTpD : PyData → Bool
  | .tuple _ => true
  | _ => false
theorem kb_list {d : PyData} : kitB (tyD d) "list" = some (isLsD d) := by cases d <;> simp only [tyD, isLsD] <;> decide +kernel
theorem kb_tuple {d : PyData} : kitB (tyD d) "tuple" = some (isTpD d) := by cases d <;> simp only [tyD, isTpD] <;> decide +kernel
def spIsListA (K : PySem.W.Frag) : Sp := fun vs H Q _ => ∃ v d, vs = [v] ∧ DpD K H v d ∧ ∀ H', Same H H' → Q (.bl (isListD d)) H'
theorem ok_is_listA (T : All K mg) : FnOk P w K mg base CX0 1 T.f_is_list T.d_is_list ["value"] (spIsListA K) := by
  refine T.is_list.F.ok sc_is_list (fun vs H Q E h => ?_) (fun cdv A outer s H vs Q E hr h => ?_)
  · obtain ⟨v, d, rfl, _⟩ := h
    rfl
  · obtain ⟨v, d, rfl, hd, q⟩ := h
    refine ⟨_, pss_one (ps_ret (pe_callB call_isiT (by rfl) T.b_isinstance boot_isinstance (pa_cons (pv 0) (pa_cons (pe_tup (pa_cons (pe_bltn (v := .ty "list") (by rfl) T.b_list (by decide +kernel) rfl) (pa_cons (pe_bltn (v := .ty "tuple") (by rfl) T.b_tuple (by decide +kernel) rfl) pa_nil))) pa_nil)))), ?_⟩
    refine ⟨_, rfl, by show 2 ≤ sizeLine; decide, fun t nt => ?_⟩
    have ty := tyx_dpD (dpd_same hd (same_upd (o := .tup [.ty "list", .ty "tuple"]) nt))
    have q := q _ (same_upd (o := .tup [.ty "list", .ty "tuple"]) nt)
    have c1 := @kb_list d
    have c2 := @kb_tuple d
    cases hl : isLsD d
    · rw [hl] at c1
      have e : isListD d = isTpD d := by cases d <;> first | rfl | exact absurd hl (by simp [isLsD])
      rw [e] at q
      exact ⟨_, t, [.ty "list", .ty "tuple"], .type (tyD d), [.type "list", .type "tuple"], _, rfl, upd_same, .cons (.ty _) (.cons (.ty _) .nil), ty, kitAny_cons (b := false) (kit_ty c1) (fun _ => kitAny_cons (r := isTpD d) (kit_ty c2) (fun z => by rw [z]; rfl) (fun z => z)) (fun z => by cases z), q⟩
    · rw [hl] at c1
      have e : isListD d = true := by cases d <;> first | rfl | exact absurd hl (by simp [isLsD])
      rw [e] at q
      exact ⟨_, t, [.ty "list", .ty "tuple"], .type (tyD d), [.type "list", .type "tuple"], true, rfl, upd_same, .cons (.ty _) (.cons (.ty _) .nil), ty, kitAny_cons (b := true) (kit_ty c1) (fun z => by cases z) (fun _ => rfl), q⟩
end
theorem sub_lenN {α : Type} [DecidableEq α] : ∀ {L M : List α}, L.Nodup → (∀ x ∈ L, x ∈ M) → L.length ≤ M.length
  | [], _, _, _ => Nat.zero_le _
  | a :: L, M, hn, hs => by
    obtain ⟨s, t, e⟩ := List.append_of_mem (hs a List.mem_cons_self)
    subst e
    have hn' := List.nodup_cons.mp hn
    have h := sub_lenN (L := L) (M := s ++ t) hn'.2 fun x hx => by
      rcases List.mem_append.mp (hs x (List.mem_cons_of_mem _ hx)) with z | z
      · exact List.mem_append_left _ z
      · rcases List.mem_cons.mp z with z | z
        · exact absurd (z ▸ hx) hn'.1
        · exact List.mem_append_right _ z
    simp at h ⊢
    omega
def kT (c : Nat) : Key := .inr (tS [c])
theorem kT_inj {a b : Nat} (h : kT a = kT b) : a = b := by
  have h1 : (Sum.inr (tS [a]) : Key) = .inr (tS [b]) := h
  have h2 := tS_inj (Sum.inr.inj h1)
  exact (List.cons.inj h2).1
/-- hearings, as a list or as a tuple -/
def dHs (l : List (List Nat)) : List PyData := l.map fun t => .str (tS t)
def dH (b : Bool) (l : List (List Nat)) : PyData := if b then .tuple (dHs l) else .list (dHs l)
theorem dpAll_hs {K : PySem.W.Frag} {H : Hp} : ∀ {xs : List V} {l : List (List Nat)}, DpAll K H xs (dHs l) → xs = l.map tx
  | _, [], .nil => rfl
  | _, t :: l, .cons h a => by
    cases h
    rw [dpAll_hs a]
    rfl
theorem hs_dpAll {K : PySem.W.Frag} {H : Hp} : ∀ l : List (List Nat), DpAll K H (l.map tx) (dHs l)
  | [] => .nil
  | t :: l => .cons (.str _) (hs_dpAll l)
theorem dH_sq {K : PySem.W.Frag} {H : Hp} {v : V} {b : Bool} {l : List (List Nat)} (h : Dp K H v (dH b l)) : Sq K H v (l.map tx) := by
  cases b with
  | true =>
    obtain ⟨a, xs, rfl, hS, hA⟩ := dp_tuple (show Dp K H v (.tuple (dHs l)) from h)
    rw [dpAll_hs hA] at hS
    exact ⟨a, rfl, .inr hS⟩
  | false =>
    obtain ⟨a, xs, rfl, hS, hA⟩ := dp_list (show Dp K H v (.list (dHs l)) from h)
    rw [dpAll_hs hA] at hS
    exact ⟨a, rfl, .inl hS⟩
theorem dH_list {K : PySem.W.Frag} {H : Hp} {a : Addr} {l : List (List Nat)} (h : H a = some (.lst (l.map tx))) : Dp K H (.ref a) (dH false l) := .lst (.inl (.inl h)) (hs_dpAll l)
theorem dH_tup {K : PySem.W.Frag} {H : Hp} {a : Addr} {l : List (List Nat)} (h : H a = some (.tup (l.map tx))) : Dp K H (.ref a) (dH true l) := .tup (.inl (.inl h)) (hs_dpAll l)
/-- good hearings of each letter -/
structure HL (sg : List Nat) (L : Nat → List (List Nat)) : Prop where
  ne : ∀ c ∈ sg, L c ≠ []
  nd : ∀ c ∈ sg, (L c).Nodup
  ok : ∀ c ∈ sg, ∀ t ∈ L c, t = [] ∨ ∃ b ∈ sg, t = [b]
  few : ∀ c ∈ sg, (L c).length ≤ 4
/-- a line at d -/
def LineAt (K : PySem.W.Frag) (H : Hp) (d : Addr) (sg od : List Nat) (tp : Nat → Bool) (L : Nat → List (List Nat)) : Prop := od.Perm sg ∧ ∃ f : Nat → V, H d = some (.dK (od.map fun c => (kT c, f c))) ∧ ∀ c ∈ sg, Dp K H (f c) (dH (tp c) (L c))
theorem LineAt.same {K : PySem.W.Frag} {H H' : Hp} {d : Addr} {sg od : List Nat} {tp : Nat → Bool} {L : Nat → List (List Nat)} (h : LineAt K H d sg od tp L) (s : Same H H') : LineAt K H' d sg od tp L := by
  obtain ⟨p, f, h1, h2⟩ := h
  exact ⟨p, f, s _ _ h1, fun c hc => Dp.same s (h2 c hc)⟩
theorem valV_od (f : Nat → V) {c : Nat} : ∀ {od : List Nat}, c ∈ od → valV (od.map fun c => (kT c, f c)) (kT c) = some (f c)
  | x :: od, h => by
    by_cases e : x = c
    · subst e
      exact valV_pos rfl
    · rw [List.map_cons, valV_neg (fun z => e (kT_inj z))]
      rcases List.mem_cons.mp h with z | z
      · exact absurd z.symm e
      · exact valV_od f z
theorem LineAt.at_ {K : PySem.W.Frag} {H : Hp} {d : Addr} {sg od : List Nat} {tp : Nat → Bool} {L : Nat → List (List Nat)} (h : LineAt K H d sg od tp L) : ∃ kvs : List (Key × V), H d = some (.dK kvs) ∧ kvs.length = sg.length := by
  obtain ⟨p, f, h1, h2⟩ := h
  exact ⟨_, h1, by rw [List.length_map, p.length_eq]⟩
theorem all_id_rep (n : Nat) : (List.replicate n true).all id = true := by
  induction n with
  | zero => rfl
  | succ n ih => rw [List.replicate_succ, List.all_cons, ih]; rfl
theorem ded_nodup (val : Nat → List Nat) : ∀ i, (ded val i).Nodup
  | 0 => List.nodup_nil
  | i + 1 => by
    have ih := ded_nodup val i
    unfold ded
    split
    · exact ih
    · rename_i h
      exact List.nodup_append.mpr ⟨ih, by simp, fun x hx y hy => by rw [List.mem_singleton.mp hy]; exact fun z => h (z ▸ hx)⟩
theorem txs_len {ls : List (List Nat)} (h : ls.Nodup) : (txs ls).length = ls.length := by
  have h1 : (txs ls).Nodup := ded_nodup _ _
  exact ((List.perm_ext_iff_of_nodup h1 h).mpr fun x => txs_mem).length_eq
def hearD (sg : List Nat) : PyData → Bool
  | .str x => (x.cps.toList.all fun c => decide (c ∈ sg)) && decide (x.cps.toList.length ≤ 1)
  | _ => false
def elsD : PyData → List PyData
  | .list ds => ds
  | .tuple ds => ds
  | _ => []
def txD : PyData → List Nat
  | .str x => x.cps.toList
  | _ => []
def hearsD (sg : List Nat) (d : PyData) : Bool := isListD d && decide (elsD d ≠ []) && (elsD d).all (hearD sg) && decide ((elsD d).map txD).Nodup
def keyIs (c : Nat) : PyData → Bool
  | .str x => decide (x = tS [c])
  | _ => false
def getD (kd : List (PyData × PyData)) (c : Nat) : Option PyData := (kd.find? fun p => keyIs c p.1).map (·.2)
def lineD (sg : List Nat) : PyData → Bool
  | .dict kd => decide (kd.length = sg.length) && sg.all fun c => match getD kd c with | some d => hearsD sg d | none => false
  | _ => false
/-- hearings that are not too long -/
def shortH (d : PyData) : Prop := isListD d = true → (elsD d).length ≤ 100 ∧ ∀ e ∈ elsD d, shortD e
/-- a value in the place of a line is not too long -/
def shortL : PyData → Prop
  | .dict kd => kd.length ≤ 100 ∧ ∀ p ∈ kd, shortH p.2
  | _ => True
theorem dpd_els {K : PySem.W.Frag} {H : Hp} {v : V} {d : PyData} (h : DpD K H v d) (hl : isListD d = true) : ∃ (a : Addr) (xs : List V), v = .ref a ∧ (SqL K H a xs ∨ SqT K H a xs) ∧ DpDs K H xs (elsD d) := by
  have key : ∀ {vs : List V} {ds : List PyData}, DpAll K H vs ds → DpDs K H vs ds := fun {vs ds} h => by
    induction vs generalizing ds with
    | nil => cases h; exact .nil
    | cons v vs ih => cases h with | cons a b => exact .cons (.data a) (ih b)
  cases h with
  | data h =>
    cases h with
    | lst h a => exact ⟨_, _, rfl, .inl h, key a⟩
    | tup h a => exact ⟨_, _, rfl, .inr h, key a⟩
    | _ => exact absurd hl (by simp [isListD])
  | lst h a => exact ⟨_, _, rfl, .inl h, a⟩
  | tup h a => exact ⟨_, _, rfl, .inr h, a⟩
  | dct _ _ e => subst e; exact absurd hl (by simp [isListD])
theorem dpds_get {K : PySem.W.Frag} {H : Hp} : ∀ {xs : List V} {ds : List PyData} {i : Nat} {x : V}, DpDs K H xs ds → xs[i]? = some x → ∃ d, ds[i]? = some d ∧ DpD K H x d
  | _, _, 0, x, .cons h _, e => by simp at e; subst e; exact ⟨_, rfl, h⟩
  | _, _, i + 1, x, .cons _ t, e => by
    obtain ⟨d, h1, h2⟩ := dpds_get (i := i) t (by simpa using e)
    exact ⟨d, by simpa using h1, h2⟩
  | _, _, _, _, .nil, e => by simp at e
theorem dpds_texts {K : PySem.W.Frag} {H : Hp} {sg : List Nat} : ∀ {xs : List V} {ds : List PyData}, DpDs K H xs ds → ds.all (hearD sg) = true → xs = (ds.map txD).map tx
  | _, _, .nil, _ => rfl
  | _, d :: ds, .cons h t, e => by
    rw [List.all_cons, Bool.and_eq_true] at e
    have ih := dpds_texts t e.2
    rw [ih]
    have e1 := e.1
    cases d with
    | str x => rw [h.str_inv]; rfl
    | _ => exact absurd e1 (by simp [hearD])
theorem nodup_of_len {α : Type} [DecidableEq α] : ∀ {L M : List α}, L.Nodup → (∀ x ∈ L, x ∈ M) → M.length ≤ L.length → M.Nodup
  | [], M, _, _, h => by
    cases M with
    | nil => exact List.nodup_nil
    | cons a M => exact absurd h (by simp)
  | a :: L, M, hn, hs, h => by
    obtain ⟨s, t, e⟩ := List.append_of_mem (hs a List.mem_cons_self)
    subst e
    have hn' := List.nodup_cons.mp hn
    have len : (s ++ a :: t).length = (s ++ t).length + 1 := by simp; omega
    have h' : (s ++ t).length ≤ L.length := by rw [len, List.length_cons] at h; omega
    have sub : ∀ x ∈ L, x ∈ s ++ t := fun x hx => by
      have hx2 := hs x (List.mem_cons_of_mem _ hx)
      rcases List.mem_append.mp hx2 with z | z
      · exact List.mem_append_left _ z
      · rcases List.mem_cons.mp z with z | z
        · exact absurd (z ▸ hx) hn'.1
        · exact List.mem_append_right _ z
    have nd := nodup_of_len hn'.2 sub h'
    have na : a ∉ s ++ t := fun z => by
      have := sub_lenN hn fun x hx => (List.mem_cons.mp hx).elim (fun e => e ▸ z) fun q => sub x q
      rw [List.length_cons] at this
      omega
    exact (List.perm_middle.nodup_iff).mpr (List.nodup_cons.mpr ⟨na, nd⟩)
theorem txs_len_iff {ls : List (List Nat)} : (txs ls).length = ls.length ↔ ls.Nodup := by
  constructor
  · intro h
    have h1 : (txs ls).Nodup := ded_nodup _ _
    exact nodup_of_len h1 (fun x hx => txs_mem.mp hx) (by omega)
  · exact txs_len
section
variable {P : Program} {w : World} {K : PySem.W.Frag} {mg : Str → Option Value} {base : Heap}
def spHearingsA (K : PySem.W.Frag) : Sp := fun vs H Q _ => ∃ (sg : List Nat) (v : V) (d : PyData), vs = [tx sg, v] ∧ DpD K H v d ∧ shortH d ∧ ∀ H', Same H H' → Q (.bl (hearsD sg d)) H'
theorem ok_are_hearingsA (T : All K mg) : FnOk P w K mg base CX0 2 T.f_are_hearings T.d_are_hearings ["letters", "value"] (spHearingsA K) := by
  refine T.are_hearings.F.ok sc_are_hearings (fun vs H Q E h => ?_) (fun cdv A outer s H vs Q E hr h => ?_)
  · obtain ⟨sg, v, d, rfl, _⟩ := h
    rfl
  · obtain ⟨sg, v, d, rfl, hd, hz, q⟩ := h
    refine ⟨_, pss_cons (ps_if (PW.pt (pw_or (pt_not (pt_val (pe_call (ok_is_listA T) (hr.mono (by decide)) (by rfl) T.is_list.g T.is_list.F.kp T.is_list.b .nil pass0 (pa_cons (pv 1) pa_nil)))) (pw_or1 (pt_cmpR op_eq (pe_callB call_len_seq (by rfl) T.b_len PySem.boot_len (pa_cons (pv 1) pa_nil)) pe_int (nomark _))))) (pss_one (ps_ret pe_bl)) pss_nil)
      (pss_cons (ps_if (pt_not (pt_val (pe_callB (cr_all rfl) (by rfl) T.b_all PyProof.Rows.boot_all (pa_cons (pe_lc (own := [("hearing", 2)]) (g := gName 2) (tt := tYes) rfl sc_are_hearings.nd (pi_sq (pv 1))
          (blkOk_by (own := [("hearing", 2)]) (N := ["letters", "value", "hearing"]) (sc := defScope s_are_hearings) (by decide +kernel))
          (fun _ _ _ _ _ => pg_name (i := 2) sc_are_hearings.nd rfl (by first | exact Or.inl rfl | exact Or.inr rfl)) (fun _ _ _ _ _ => pts_nil)
          (fun _ _ _ _ _ => (pe_and (pe_call (ok_is_text_over T) (hr.mono (by decide)) (by rfl) T.is_text_over.g T.is_text_over.F.kp T.is_text_over.b .nil pass0 (pa_cons (pv 0) (pa_cons (pv 2) pa_nil)))
        (pe_one (pe_cmpR op_le (pe_callB call_lenT (by rfl) T.b_len PySem.boot_len (pa_cons (pv 2) pa_nil)) pe_int (by rfl)))))) pa_nil)))) (pss_one (ps_ret pe_bl)) pss_nil)
      (pss_one (ps_ret (pe_cmpR op_eq (pe_callB cr_lenSetT (by rfl) T.b_len PySem.boot_len (pa_cons (pe_callTy (cr_setTs rfl) (by rfl) T.b_set (show bootBuiltins "set" = some (.type "set") by decide +kernel) (pa_cons (pv 1) pa_nil)) pa_nil)) (pe_callB call_len_seq (by rfl) T.b_len PySem.boot_len (pa_cons (pv 1) pa_nil)) (by rfl))))), ?_⟩
    dsimp only [cxOf]
    refine ⟨_, rfl, v, d, rfl, hd, fun H1 s1 => ?_⟩
    cases hl : isListD d
    · have e : hearsD sg d = false := by unfold hearsD; rw [hl]; rfl
      rw [e] at q
      exact ⟨false, rfl, iteT (q _ s1)⟩
    obtain ⟨hz1, hz2⟩ := hz hl
    obtain ⟨a, xs, rfl, hS, hD⟩ := dpd_els (dpd_same hd s1) hl
    have hlen := hD.len
    refine ⟨true, rfl, iteF ?_⟩
    refine ⟨_, rfl, a, xs, rfl, hS, rfl, _, rfl, ?_⟩
    by_cases hne : elsD d = []
    · have e : hearsD sg d = false := by unfold hearsD; rw [hne]; simp
      rw [e] at q
      have e0 : xs.length = 0 := by rw [hlen, hne]; rfl
      exact ite_t (by simp [List.length_eq_zero_iff.mp e0]) (q _ s1)
    have e0 : xs.length ≠ 0 := by rw [hlen]; exact fun z => hne (List.length_eq_zero_iff.mp z)
    refine ite_f (by simp; exact fun z => e0 (by rw [z]; rfl)) ?_
    refine ⟨_, rfl, xs, H1, ⟨a, rfl, hS⟩, Same.refl _, fun J G wlk hGG D nD => ?_⟩
    refine lc_gen wlk (Same H1) (fun i acc => acc = (((elsD d).take i).map (hearD sg)).map V.bl) (sz (by omega)) (fun i acc e => by rw [e]; simp; omega) rfl (same_upd nD) (fun _ _ h => same_up h nD) (fun _ h => hGG _ h) (fun i x H2 H3 acc C N hi r hDD ha y c n => ?_) (fun H2 ys r hDD ha => ?_)
    · obtain ⟨rfl, hy⟩ := y
      obtain ⟨e, he, hxd⟩ := dpds_get hD hy
      have hxd := dpd_same hxd r
      have hsz := hz2 e (List.mem_of_getElem? he)
      have fin : acc ++ [V.bl (hearD sg e)] = (((elsD d).take (i + 1)).map (hearD sg)).map V.bl := by
        rw [ha, List.take_add_one, he]
        simp
      refine ⟨rfl, yes_te ?_⟩
      by_cases hs : ∃ t, e = .str t
      · obtain ⟨t, rfl⟩ := hs
        have ev := dpd_text hxd
        have hsz : t.cps.toList.length ≤ 1000 := hsz
        subst ev
        refine ⟨_, rfl, _, rfl, sg, _, rfl, .inl ⟨t.cps.toList, rfl, by omega, fun H4 s4 => ⟨_, rfl, ?_⟩⟩⟩
        have ee : hearD sg (.str t) = ((t.cps.toList.all fun c => decide (c ∈ sg)) && decide (t.cps.toList.length ≤ 1)) := rfl
        cases hc : t.cps.toList.all fun c => decide (c ∈ sg)
        · rw [ee, hc] at fin
          exact ite_f rfl (c _ _ (r.trans s4) (s4 _ _ hDD) fin)
        · rw [ee, hc] at fin
          refine ite_t rfl ⟨_, rfl, t.cps.toList, rfl, sz (by omega), _, _, rfl, rfl, ?_⟩
          have e1 : V.bl (decide ((t.cps.toList.length : Int) ≤ 1)) = V.bl (decide (t.cps.toList.length ≤ 1)) := congrArg V.bl (decide_eq_decide.mpr (by omega))
          show C (V.bl (decide ((t.cps.toList.length : Int) ≤ 1))) H4
          rw [e1]
          exact c _ _ (r.trans s4) (s4 _ _ hDD) fin
      · have hs : ∀ t, e ≠ .str t := fun t z => hs ⟨t, z⟩
        have ee : hearD sg e = false := by cases e <;> first | rfl | exact absurd rfl (hs _)
        rw [ee] at fin
        refine ⟨_, rfl, _, rfl, sg, _, rfl, .inr ⟨tyD e, tyx_dpD hxd, kb_str hs, ⟨_, rfl, ite_f rfl ?_⟩⟩⟩
        exact c _ _ r hDD fin
    subst ha
    have el : ∀ {α : Type} {l : List α}, l.take xs.length = l.take xs.length := rfl
    rw [hlen, List.take_length] at hDD
    refine ⟨D, (elsD d).map (hearD sg), rfl, .inl (.inl hDD), ?_⟩
    have e3 : ((elsD d).map (hearD sg)).all id = (elsD d).all (hearD sg) := by rw [List.all_map]; rfl
    rw [e3]
    cases hall : (elsD d).all (hearD sg)
    · have e : hearsD sg d = false := by unfold hearsD; rw [hall]; simp
      rw [e] at q
      exact ⟨false, rfl, iteT (q _ (s1.trans r))⟩
    refine ⟨true, rfl, iteF ?_⟩
    have hx := dpds_texts hD hall
    subst hx
    have hS2 : Sq K H2 (.ref a) (((elsD d).map txD).map tx) := Sq.same ⟨a, rfl, hS⟩ r
    refine ⟨_, rfl, _, (elsD d).map txD, rfl, hS2, by rw [List.length_map]; omega, fun p np => ?_⟩
    have sp := same_upd (o := TSet w p (txs ((elsD d).map txD))) np
    refine ⟨p, _, rfl, upd_same, _, rfl, ?_⟩
    obtain ⟨a', e', hSS'⟩ := hS2.same sp
    cases e'
    refine ⟨a, _, rfl, hSS', rfl, ?_⟩
    have e2 : V.bl (decide (V.int ((txs ((elsD d).map txD)).length : Int) = V.int ((((elsD d).map txD).map tx).length : Int))) = V.bl (hearsD sg d) := by
      refine congrArg V.bl ?_
      unfold hearsD
      rw [hl, hall, decide_eq_true hne, List.length_map (f := tx)]
      have e4 : (V.int ((txs ((elsD d).map txD)).length : Int) = V.int (((elsD d).map txD).length : Int)) ↔ ((elsD d).map txD).Nodup := by
        rw [← txs_len_iff]
        constructor
        · intro z
          injection z with z
          omega
        · intro z
          rw [z]
      simp only [Bool.true_and]
      exact decide_eq_decide.mpr e4
    show Q (V.bl (decide (V.int ((txs ((elsD d).map txD)).length : Int) = V.int ((((elsD d).map txD).map tx).length : Int)))) _
    rw [e2]
    exact q _ (s1.trans (r.trans sp))
end
end Lw
namespace Lw
open PySem PySem.Spec PyProof.Rows L3
open L2 hiding del del_same del_ne
section
variable {P : Program} {w : World} {K : PySem.W.Frag} {mg : Str → Option Value} {base : Heap}
/-- a pot: two numbers -/
def Pot (H : Hp) (a : Addr) : Prop := ∃ x y : Int, H a = some (.lst [.int x, .int y]) ∧ 0 ≤ x ∧ 0 ≤ y ∧ y < 4294967296
/-- all but a stays -/
def Off (a : Addr) (H H' : Hp) : Prop := ∀ b o, H b = some o → b ≠ a → H' b = some o
theorem Off.refl (a : Addr) (H : Hp) : Off a H H := fun _ _ e _ => e
theorem Off.trans {a : Addr} {H H1 H2 : Hp} (x : Off a H H1) (y : Off a H1 H2) : Off a H H2 := fun b o e n => y b o (x b o e n) n
theorem Off.of {a : Addr} {H H' : Hp} (s : Same H H') : Off a H H' := fun b o e _ => s b o e
theorem Off.up {a p : Addr} {H H' : Hp} {o : HO} (x : Off a H H') (h : H p = none) : Off a H (upd H' p o) := fun b u e n => by
  rw [upd_ne (ne_of_none e h)]
  exact x b u e n
theorem Off.at {a : Addr} {H H' : Hp} {o : HO} (x : Off a H H') : Off a H (upd H' a o) := fun b u e n => by
  rw [upd_ne n]
  exact x b u e n
theorem Pot.some {H : Hp} {a : Addr} (h : Pot H a) : H a ≠ none := fun e => by
  obtain ⟨x, y, h, _⟩ := h
  rw [e] at h
  cases h
theorem Off.free {a : Addr} {H H' : Hp} (x : Off a H H') {l : Addr} (h : H' l = none) (hp : Pot H' a) : H l = none := by
  cases q : H l with
  | none => rfl
  | some o =>
    by_cases e : l = a
    · subst e
      exact absurd h hp.some
    · rw [x l o q e] at h
      cases h
theorem Off.seq {K : PySem.W.Frag} {a l : Addr} {H H' : Hp} {xs : List V} (x : Off a H H') (n : l ≠ a) (h : SqL K H l xs) : SqL K H' l xs := by
  rcases h with (h | ⟨o, h⟩) | h
  · exact .inl (.inl (x _ _ h n))
  · exact .inl (.inr ⟨o, x _ _ h n⟩)
  · exact .inr h
def spPot (K : PySem.W.Frag) : Sp := fun vs H Q _ => ∃ (a : Addr) (ns : List Int) (k : Nat), vs = [.ref a, .int (k : Int)] ∧ SqL K H a (ns.map V.int) ∧ k ≤ 10 ∧ ∀ H' p, Same H H' → H p = none → Pot H' p → Q (.ref p) H'
theorem pot_fin {H : Hp} {p : Addr} {z : Int} (x : Int) : Pot (upd H p (.lst [.int (if x > 0 then x else 0), .int (z % 2147483549 + 1)])) p := by
  refine ⟨_, _, upd_same, ?_, ?_, ?_⟩
  · split <;> omega
  · omega
  · omega
theorem ok_law_pot (T : All K mg) : FnOk P w K mg base CX0 1 T.f_law_pot T.d_law_pot ["_law_script", "_law_k"] (spPot K) := by
  refine T.law_pot.F.ok sc_law_pot (fun vs H Q E h => ?_) (fun cdv A outer s H vs Q E hr h => ?_)
  · obtain ⟨a, ns, k, rfl, _⟩ := h
    rfl
  · obtain ⟨a, ns, k, rfl, hS, hk, q⟩ := h
    refine ⟨_, pss_cons (ps_set (i := 2) sc_law_pot.nd rfl (.inl rfl) (pe_op op_add (pe_op op_mul pe_int (pv 1)) pe_int))
      (pss_cons (ps_if (pt_cmpR op_lt (pv 1) (pe_callB call_len_seq (by rfl) T.b_len PySem.boot_len (pa_cons (pv 0) pa_nil)) (nomark _))
        (pss_one (ps_set (i := 2) sc_law_pot.nd rfl (.inl rfl) (pe_callB call_abs (by rfl) T.b_abs PyProof.Rows.boot_abs (pa_cons (pe_ix ix_list (pv 0) (pv 1) (fun _ _ => rfl)) pa_nil)))) pss_nil)
      (pss_one (ps_ret (pe_lst (pa_cons (pe_callB (call_max2 rfl) (by rfl) T.b_max PyProof.Rows.boot_max (pa_cons pe_int (pa_cons (pe_op op_sub (pv 2) (pe_op op_pow pe_int pe_int)) pa_nil)))
        (pa_cons (pe_op op_add (pe_op op_mod (pe_callTy call_int1 (by rfl) T.b_int PyProof.Rows.boot_int (pa_cons (pe_op op_add (pe_op op_mul (pe_op op_mod (pe_callTy call_int1 (by rfl) T.b_int PyProof.Rows.boot_int (pa_cons (pv 2) pa_nil)) pe_int) (pe_op op_add (pe_op op_mul pe_int (pv 1)) pe_int)) pe_int) pa_nil)) pe_int) pe_int) pa_nil)))))), ?_⟩
    refine ⟨_, rfl, _, _, rfl, rfl, .inl ⟨by decide, by decide⟩, _, _, rfl, rfl, ?_⟩
    refine ⟨_, rfl, _, rfl, a, ns.map V.int, rfl, .inl hS, _, _, rfl, rfl, _, rfl, ite2 (fun e => ?_) (fun e => ?_)⟩
    · have hlt : k < ns.length := by
        have := of_decide_eq_true e
        rw [List.length_map] at this
        omega
      refine ⟨_, rfl, _, rfl, a, _, _, .int ns[k], rfl, rfl, hS, atI_nat (by rw [List.getElem?_map, List.getElem?_eq_getElem hlt]; rfl), _, rfl, ?_⟩
      refine ⟨_, rfl, 10, 18, rfl, rfl, ⟨by decide, by decide, by decide⟩, _, _, rfl, rfl, _, _, rfl, ?_⟩
      refine ⟨_, rfl, .inl ⟨_, rfl, _, _, rfl, rfl, (by show (0 : Int) < 2147483563; decide), _, rfl, _, _, rfl, rfl, .inl ⟨by decide, by decide⟩, _, _, rfl, rfl, _, _, rfl, rfl, .inr ⟨by omega, by omega⟩, _, _, rfl, rfl,
        .inl ⟨_, rfl, _, _, rfl, rfl, (by show (0 : Int) < 2147483549; decide), _, _, rfl, rfl, (by show 2 ≤ sizeLine; decide), fun p np => ?_⟩⟩⟩
      exact q _ p (same_upd np) np (pot_fin _)
    · refine ⟨_, rfl, 10, 18, rfl, rfl, ⟨by decide, by decide, by decide⟩, _, _, rfl, rfl, _, _, rfl, ?_⟩
      refine ⟨_, rfl, .inl ⟨_, rfl, _, _, rfl, rfl, (by show (0 : Int) < 2147483563; decide), _, rfl, _, _, rfl, rfl, .inl ⟨by decide, by decide⟩, _, _, rfl, rfl, _, _, rfl, rfl, .inr ⟨by omega, by omega⟩, _, _, rfl, rfl,
        .inl ⟨_, rfl, _, _, rfl, rfl, (by show (0 : Int) < 2147483549; decide), _, _, rfl, rfl, (by show 2 ≤ sizeLine; decide), fun p np => ?_⟩⟩⟩
      exact q _ p (same_upd np) np (pot_fin _)
def spDraw : Sp := fun vs H Q _ => ∃ (a : Addr) (n : Nat), vs = [.ref a, .int (n : Int)] ∧ Pot H a ∧ 0 < n ∧ n ≤ 1000000 ∧ ∀ (H' : Hp) (d : Nat), d < n → Pot H' a → Off a H H' → Q (.int (d : Int)) H'
theorem ix2_0 {x y : V} : ixN [x, y].length (0 : Int) = some 0 := rfl
theorem ix2_1 {x y : V} : ixN [x, y].length (1 : Int) = some 1 := rfl
theorem ok_law_draw (T : All K mg) : FnOk P w K mg base CX0 1 T.f_law_draw T.d_law_draw ["_law_pot_here", "_law_size"] spDraw := by
  refine T.law_draw.F.ok sc_law_draw (fun vs H Q E h => ?_) (fun cdv A outer s H vs Q E hr h => ?_)
  · obtain ⟨a, n, rfl, _⟩ := h
    rfl
  · obtain ⟨a, n, rfl, hp, hn, hn2, q⟩ := h
    obtain ⟨x, y, ha, hx, hy, hy2⟩ := hp
    refine ⟨_, pss_cons (ps_if (pt_cmpR op_gt (pe_ix ix_list (pv 0) pe_int (fun _ _ => rfl)) pe_int (nomark _))
        (pss_cons (ps_asg (pe_callB call_divmod (by rfl) T.b_divmod PyProof.Rows.boot_divmod (pa_cons (pe_ix ix_list (pv 0) pe_int (fun _ _ => rfl)) (pa_cons (pv 1) pa_nil))) (pg_tup (by rfl) (pgs_cons (pg_sub (pv 0) pe_int set_list) (pgs_cons (pg_name (i := 2) sc_law_draw.nd rfl (.inl rfl)) pgs_nil))))
        (pss_one (ps_ret (pv 2)))) pss_nil)
      (pss_cons (ps_asg (pe_op op_mod (pe_callTy call_int1 (by rfl) T.b_int PyProof.Rows.boot_int (pa_cons (pe_op op_add (pe_op op_mul (pe_ix ix_list (pv 0) pe_int (fun _ _ => rfl)) pe_int) pe_int) pa_nil)) pe_int) (pg_sub (pv 0) pe_int set_list))
      (pss_one (ps_ret (pe_op op_mod (pe_callTy call_int1 (by rfl) T.b_int PyProof.Rows.boot_int (pa_cons (pe_op op_fdiv (pe_op op_mod (pe_callTy call_int1 (by rfl) T.b_int PyProof.Rows.boot_int (pa_cons (pe_op op_mul (pe_ix ix_list (pv 0) pe_int (fun _ _ => rfl)) (pe_ix ix_list (pv 0) pe_int (fun _ _ => rfl))) pa_nil)) pe_int) pe_int) pa_nil)) (pv 1))))), ?_⟩
    refine ⟨_, rfl, a, _, _, .int x, rfl, rfl, .inl (.inl ha), rfl, _, _, rfl, rfl, _, rfl, ite2 (fun e => ?_) (fun e => ?_)⟩
    · -- the pot's own digits
      have hx0 : 0 < x := of_decide_eq_true e
      refine ⟨_, rfl, a, _, _, .int x, rfl, rfl, .inl (.inl ha), rfl, _, rfl, x, n, rfl, ⟨by omega, by omega⟩, fun t nt => ?_⟩
      have nat' : a ≠ t := ne_of_none ha nt
      have ha2 : upd H t (.tup [.int (x / n), .int (x % n)]) a = some (.lst [.int x, .int y]) := by rw [upd_ne nat']; exact ha
      refine ⟨t, _, rfl, .inl (.inl upd_same), rfl, _, _, rfl, _, rfl, a, _, _, 0, rfl, rfl, ha2, ix2_0, _, _, rfl, rfl, ?_⟩
      have h0 := Int.emod_nonneg x (show (n : Int) ≠ 0 by omega)
      have h1 := Int.emod_lt_of_pos x (show (0 : Int) < (n : Int) by omega)
      obtain ⟨d, hd⟩ := Int.eq_ofNat_of_zero_le h0
      refine ⟨_, rfl, ?_⟩
      rw [hd]
      refine q _ d (by omega) ⟨x / n, y, upd_same, Int.ediv_nonneg hx (by omega), hy, hy2⟩ (Off.at (Off.up (Off.refl a H) nt))
    · -- the mixed number
      refine ⟨_, rfl, a, _, _, .int y, rfl, rfl, .inl (.inl ha), rfl, y, _, rfl, rfl, .inl ⟨by omega, by omega⟩, _, _, rfl, rfl, .inl ⟨_, rfl, _, _, rfl, rfl, (by show (0 : Int) < 2147483587; decide), ?_⟩⟩
      refine ⟨_, rfl, a, _, _, 1, rfl, rfl, ha, ix2_1, ?_⟩
      have hz := Int.emod_nonneg (y * 48271 + 15107) (show (2147483587 : Int) ≠ 0 by decide)
      have hz2 := Int.emod_lt_of_pos (y * 48271 + 15107) (show (0 : Int) < 2147483587 by decide)
      obtain ⟨z, hz0⟩ : ∃ z, (y * 48271 + 15107) % 2147483587 = z := ⟨_, rfl⟩
      have hA : upd H a (.lst ([V.int x, V.int y].set 1 ((fun i j => V.int (i % j)) (y * 48271 + 15107) 2147483587))) a = some (.lst [.int x, .int z]) := by
        rw [upd_same]
        show some (HO.lst [V.int x, V.int ((y * 48271 + 15107) % 2147483587)]) = _
        rw [hz0]
      rw [hz0] at hz hz2
      refine ⟨_, rfl, a, _, _, .int z, rfl, rfl, .inl (.inl hA), rfl, _, rfl, a, _, _, .int z, rfl, rfl, .inl (.inl hA), rfl, z, z, rfl, rfl, .inl ⟨by omega, by omega⟩,
        .inl ⟨_, rfl, _, _, rfl, rfl, (by show (0 : Int) < 2147483543; decide), _, _, rfl, rfl, ⟨by decide, by decide⟩, .inl ⟨_, rfl, _, rfl, _, _, rfl, rfl, (by show (0 : Int) < (n : Int); omega), ?_⟩⟩⟩
      have h0 := Int.emod_nonneg (z * z % 2147483543 / 19) (show (n : Int) ≠ 0 by omega)
      have h1 := Int.emod_lt_of_pos (z * z % 2147483543 / 19) (show (0 : Int) < (n : Int) by omega)
      obtain ⟨d, hd⟩ := Int.eq_ofNat_of_zero_le h0
      show Q (.int (z * z % 2147483543 / 19 % (n : Int))) _
      rw [hd]
      exact q _ d (by omega) ⟨x, z, hA, hx, hz, by omega⟩ (Off.at (Off.refl a H))
def spPick (K : PySem.W.Frag) : Sp := fun vs H Q _ => ∃ (a : Addr) (x : V), vs = [.ref a, x] ∧ Pot H a ∧
  ((∃ l : List Nat, x = tx l ∧ l ≠ [] ∧ l.length ≤ 1000 ∧ ∀ (H' : Hp) (c : Nat), c ∈ l → Pot H' a → Off a H H' → Q (tx [c]) H') ∨
   ∃ (b : Addr) (xs : List V), x = .ref b ∧ b ≠ a ∧ SqL K H b xs ∧ xs ≠ [] ∧ xs.length ≤ 1000 ∧ ∀ (H' : Hp) (v : V), v ∈ xs → Pot H' a → Off a H H' → Q v H')
theorem ok_law_pick (T : All K mg) : FnOk P w K mg base CX0 2 T.f_law_pick T.d_law_pick ["_law_pot_here", "_law_some"] (spPick K) := by
  refine T.law_pick.F.ok sc_law_pick (fun vs H Q E h => ?_) (fun cdv A outer s H vs Q E hr h => ?_)
  · obtain ⟨a, x, rfl, _⟩ := h
    rfl
  · obtain ⟨a, x, rfl, hp, h⟩ := h
    refine ⟨_, pss_one (ps_ret (pe_ix ix_seq (pv 1) (pe_call (ok_law_draw T) hr (by rfl) T.law_draw.g T.law_draw.F.kp T.law_draw.b .nil pass0 (pa_cons (pv 0) (pa_cons (pe_callB call_len (by rfl) T.b_len PySem.boot_len (pa_cons (pv 1) pa_nil)) pa_nil))) (fun _ _ => rfl))), ?_⟩
    rcases h with ⟨l, rfl, hl, hl2, q⟩ | ⟨b, xs, rfl, hba, hS, hl, hl2, q⟩
    · have hpos : 0 < l.length := List.length_pos_iff.mpr hl
      refine ⟨_, rfl, _, rfl, _, rfl, _, l.length, rfl, ⟨by rw [tS_len, sizeLine_eq]; omega, (tS_len l).symm⟩, a, l.length, rfl, hp, hpos, by omega, fun H' d hd hp' ho => ?_⟩
      refine .inr (.inr ⟨_, _, l[d], rfl, rfl, by rw [tS_len, sizeLine_eq]; omega, atI_nat (by simp [hd]), ?_⟩)
      exact q H' l[d] (List.getElem_mem hd) hp' ho
    · have hpos : 0 < xs.length := List.length_pos_iff.mpr hl
      refine ⟨_, rfl, _, rfl, _, rfl, _, xs.length, rfl, .inl ⟨xs, hS, rfl⟩, a, xs.length, rfl, hp, hpos, by omega, fun H' d hd hp' ho => ?_⟩
      refine .inl ⟨b, xs, _, xs[d], rfl, rfl, ho.seq hba hS, atI_nat (List.getElem?_eq_getElem hd), ?_⟩
      exact q H' xs[d] (List.getElem_mem hd) hp' ho
theorem Pot.up {H : Hp} {a p : Addr} {o : HO} (h : Pot H a) (n : a ≠ p) : Pot (upd H p o) a := by
  obtain ⟨x, y, e, r⟩ := h
  exact ⟨x, y, by rw [upd_ne n]; exact e, r⟩
theorem Pot.ne {H : Hp} {a p : Addr} (h : Pot H a) (e : H p = none) : a ≠ p := fun z => h.some (by rw [z]; exact e)
theorem Pot.same {H H' : Hp} {a : Addr} (h : Pot H a) (s : Same H H') : Pot H' a := by
  obtain ⟨x, y, e, r⟩ := h
  exact ⟨x, y, s _ _ e, r⟩
theorem perm_erase {α : Type} : ∀ {l : List α} {k : Nat} (h : k < l.length), (l[k] :: l.eraseIdx k).Perm l
  | a :: l, 0, _ => List.Perm.refl _
  | a :: l, k + 1, h => by
    have hk : k < l.length := by simpa using h
    have ih := perm_erase (l := l) (k := k) hk
    show (l[k] :: a :: l.eraseIdx k).Perm (a :: l)
    exact (List.Perm.swap a _ _).trans (List.Perm.cons a ih)
def spMixed (K : PySem.W.Frag) : Sp := fun vs H Q _ => ∃ (a b : Addr) (l : List V), vs = [.ref a, .ref b] ∧ Pot H a ∧ (SqL K H b l ∨ SqT K H b l) ∧ l.length ≤ 1000 ∧ ∀ H' p l', l'.Perm l → Pot H' a → Off a H H' → H p = none → H' p = some (.lst l') → Q (.ref p) H'
theorem ok_law_mixed (T : All K mg) : FnOk P w K mg base CX0 2 T.f_law_mixed T.d_law_mixed ["_law_pot_here", "_law_some"] (spMixed K) := by
  refine T.law_mixed.F.ok sc_law_mixed (fun vs H Q E h => ?_) (fun cdv A outer s H vs Q E hr h => ?_)
  · obtain ⟨a, b, l, rfl, _⟩ := h
    rfl
  · obtain ⟨a, b, l, rfl, hp, hS, hl, q⟩ := h
    refine ⟨_, pss_cons (ps_par rfl sc_law_mixed.nd (i := 2) (j := 3) rfl rfl (by decide) rfl rfl (pa_cons (pe_callTy call_list_of (by rfl) T.b_list PyProof.Rows.boot_list (pa_cons (pv 1) pa_nil)) (pa_cons (pe_lst pa_nil) pa_nil)) (by rfl))
      (pss_cons (ps_for PassesOwn.never rfl (pi_range1 rfl T.b_range (pa_cons (pe_callB call_len_seq (by rfl) T.b_len PySem.boot_len (pa_cons (pv 2) pa_nil)) pa_nil)) (pg_name (i := 4) sc_law_mixed.nd rfl (by first | exact Or.inl rfl | exact Or.inr rfl))
        (pss_one (ps_expr (pe_bm PySem.F.plainAttrs_list PySem.F.slot_list_append PySem.F.type_list_append mt_append (pv 3) (pa_cons (pe_bm PySem.F.plainAttrs_list PySem.F.slot_list_pop PySem.F.type_list_pop mt_popAt (pv 2) (pa_cons (pe_call (ok_law_draw T) (hr.mono (by decide)) (by rfl) T.law_draw.g T.law_draw.F.kp T.law_draw.b .nil pass0 (pa_cons (pv 0) (pa_cons (pe_callB call_len_seq (by rfl) T.b_len PySem.boot_len (pa_cons (pv 2) pa_nil)) pa_nil))) pa_nil)) pa_nil)))))
      (pss_one (ps_ret (pv 3)))), ?_⟩
    refine ⟨_, rfl, b, _, rfl, hS, fun L nL => ⟨by show 0 ≤ sizeLine; decide, fun F nF => ⟨_, _, rfl, ?_⟩⟩⟩
    have naL : a ≠ L := hp.ne nL
    have nFL : L ≠ F := fun e => by rw [← e, upd_same] at nF; cases nF
    have nF0 : H F = none := by rw [upd_ne nFL.symm] at nF; exact nF
    have naF : a ≠ F := hp.ne nF0
    refine ⟨_, rfl, L, _, rfl, .inl (.inl (.inl (by rw [upd_ne nFL, upd_same]))), _, rfl, by omega, by omega, ?_⟩
    rw [show ((l.length : Int)).toNat = l.length by omega]
    refine for_it walk_range (fun i σ H' => ∃ t, σ = [some (.ref a), some (.ref b), some (.ref L), some (.ref F), t] ∧ Pot H' a ∧ Off a H H' ∧ ∃ l1 l2, H' L = some (.lst l1) ∧ H' F = some (.lst l2) ∧ l2.length = i ∧ l1.length + i = l.length ∧ (l2 ++ l1).Perm l)
      ⟨none, rfl, (hp.up naL).up naF, ((Off.refl a H).up nL).up nF0, l, [], by rw [upd_ne nFL, upd_same], upd_same, rfl, rfl, List.Perm.refl _⟩ (fun _ _ _ _ _ => trivial) (fun i x σ H2 H3 hi p y => ?_) (fun σ H2 p => ?_)
    · obtain ⟨t0, rfl, hp2, ho2, l1, l2, hL, hF, e1, e2, hpm⟩ := p
      obtain ⟨rfl, rfl⟩ := y
      refine ⟨_, rfl, .inl ⟨rfl, _, .inl (.inl hF)⟩, _, rfl, .inl ⟨rfl, _, .inl (.inl hL)⟩, _, rfl, _, rfl, L, _, rfl, .inl (.inl (.inl hL)), a, l1.length, rfl, hp2, by omega, by omega, fun H4 d hd hp4 ho4 => ?_⟩
      have hL4 := ho4 _ _ hL naL.symm
      have hF4 := ho4 _ _ hF naF.symm
      refine ⟨L, _, (d : Int), d, _, rfl, rfl, hL4, by omega, by omega, ?_, List.getElem?_eq_getElem hd, ?_⟩
      · unfold seqIndex?; simp; omega
      refine ⟨F, _, _, rfl, rfl, by rw [upd_ne nFL.symm]; exact hF4, Nat.lt_of_lt_of_le (by omega : l2.length < 1001) (sz (by omega)), ?_⟩
      refine ⟨_, rfl, (hp4.up naL).up naF, ((ho2.trans ho4).up nL).up nF0, l1.eraseIdx d, l2 ++ [l1[d]], ?_, ?_, ?_, ?_, ?_⟩
      · rw [upd_ne nFL, upd_same]
      · rw [upd_same]
      · rw [List.length_append, e1]; rfl
      · rw [List.length_eraseIdx_of_lt hd]; omega
      · rw [List.append_assoc]
        exact (List.Perm.append_left l2 (perm_erase hd)).trans hpm
    · obtain ⟨t0, rfl, hp2, ho2, l1, l2, hL, hF, e1, e2, hpm⟩ := p
      have : l1 = [] := List.eq_nil_of_length_eq_zero (by omega)
      subst this
      rw [List.append_nil] at hpm
      exact ⟨_, rfl, q _ F l2 hpm hp2 ho2 nF0 hF⟩
end
end Lw
namespace Lw
open PySem PySem.Spec PyProof.Rows L3
open L2 hiding del del_same del_ne
theorem merge_nodup : ∀ (more kvs : List (Key × V)), ((kvs ++ more).map (·.1)).Nodup → mergeK kvs more = kvs ++ more
  | [], kvs, _ => (List.append_nil kvs).symm
  | kv :: more, kvs, h => by
    have hno : valV kvs kv.1 = none := by
      cases e : valV kvs kv.1 with
      | none => rfl
      | some v =>
        exfalso
        have h1 := valV_in e
        rw [List.map_append, List.map_cons] at h
        exact (List.nodup_append.mp h).2.2 kv.1 h1 kv.1 List.mem_cons_self rfl
    show mergeK (putK kvs kv.1 kv.2) more = _
    rw [putK_new kv.2 hno, merge_nodup more (kvs ++ [(kv.1, kv.2)]) (by rw [List.append_assoc]; exact h), List.append_assoc]
    rfl
def dPr (tp : Nat → Bool) (L : Nat → List (List Nat)) (c : Nat) : PyData := .tuple [.str (tS [c]), dH (tp c) (L c)]
theorem prs_of {K : PySem.W.Frag} {H : Hp} {tp : Nat → Bool} {L : Nat → List (List Nat)} : ∀ {xs : List V} {od : List Nat}, od.Nodup → DpAll K H xs (od.map (dPr tp L)) → ∃ (ps : List Addr) (f : Nat → V), xs = ps.map V.ref ∧ Paired (fun p (kv : Key × V) => SqT K H p [kV kv.1, kv.2]) ps (od.map fun c => (kT c, f c)) ∧ ∀ c ∈ od, Dp K H (f c) (dH (tp c) (L c))
  | [], [], _, _ => ⟨[], fun _ => .non, rfl, .nil, fun c hc => nomatch hc⟩
  | x :: xs, c :: od, hn, .cons h t => by
    obtain ⟨hc, hn'⟩ := List.nodup_cons.mp hn
    obtain ⟨ps, f, rfl, hp, hf⟩ := prs_of hn' t
    obtain ⟨p, ys, rfl, hS, hA⟩ := dp_tuple h
    cases hA with
    | cons a b =>
      cases b with
      | @cons v _ _ _ b c' =>
        cases c'
        cases a
        have e : (od.map fun x => (kT x, if x = c then v else f x)) = od.map fun x => (kT x, f x) := List.map_congr_left fun x hx => by
          have z : x ≠ c := fun z => hc (by rw [← z]; exact hx)
          simp only [if_neg z]
        refine ⟨p :: ps, fun x => if x = c then v else f x, rfl, ?_, fun x hx => ?_⟩
        · rw [List.map_cons, e]
          refine .cons ?_ hp
          simp only [if_pos]
          exact hS
        · by_cases z : x = c
          · simp only [if_pos z]
            rw [z]; exact b
          · simp only [if_neg z]
            exact hf x ((List.mem_cons.mp hx).resolve_left z)
theorem kT_nodup {od : List Nat} (h : od.Nodup) (f : Nat → V) : ((od.map fun c => (kT c, f c)).map (·.1)).Nodup := by
  rw [List.map_map]
  exact List.pairwise_map.mpr (h.imp fun {a b} n e => n (kT_inj e))
/-- what is new -/
def nw (H G : Hp) : Hp := fun b => if (H b).isSome = true then none else G b
theorem nw_at {H G : Hp} {b : Addr} (h : H b = none) : nw H G b = G b := by unfold nw; rw [h]; rfl
theorem nw_le {H G : Hp} : Same (nw H G) G := fun b o e => by
  unfold nw at e
  split at e
  · cases e
  · exact e
theorem nw_mono {H G G' : Hp} (s : Same G G') : Same (nw H G) (nw H G') := fun b o e => by
  unfold nw at e ⊢
  split at e
  · cases e
  · rename_i h
    rw [if_neg h]
    exact s _ _ e
theorem nw_ne {H G : Hp} {a b : Addr} {o u : HO} (h : H a = some u) (e : nw H G b = some o) : b ≠ a := fun z => by
  unfold nw at e
  rw [z, h] at e
  simp at e
theorem nw_del2 {H G : Hp} {a D : Addr} {u : HO} (hp : Pot H a) (hD : H D = some u) : Same (nw H G) (del (del G D) a) := fun b o e => by
  obtain ⟨x, y, h, _⟩ := id hp
  rw [del_ne (nw_ne h e), del_ne (nw_ne hD e)]
  exact nw_le _ _ e
/-- lc_data, where only what is new counts -/
theorem lc_dataN {K : PySem.W.Frag} {J : It} {n : Nat} {G : Hp → Prop} {Y : Nat → Hp → V → Hp → Prop} (w : Walk J n G Y) {g : TG} {te : TE} {vs : List Nat} {σ : L2.St} {H1 : Hp} {D : Addr} {Qd : Hp → Prop} (H0 : Hp) (ds : List PyData) (hn : ds.length = n) (hz : n ≤ sizeLine)
    (nD : H1 D = none) (hG : ∀ H, Same H1 H → G H)
    (hs : ∀ i x H H' acc d (C : VK), i < n → Same H1 H → H D = some (.lst acc) → Y i H x H' → ds[i]? = some d → (∀ v H4, Same H H4 → Dp K (nw H0 (del H4 D)) v d → C v H4) → g x (wipe σ vs) H' fun σ2 H2 => wipe σ2 vs = wipe σ vs ∧ te σ2 H2 C)
    (hgm : ∀ x σ H (Q Q' : L2.St → Hp → Prop), (∀ σ2 H2, Q σ2 H2 → Q' σ2 H2) → g x σ H Q → g x σ H Q')
    (hd : ∀ H xs, Same H1 H → H D = some (.lst xs) → DpAll K (nw H0 (del H D)) xs ds → Qd H) :
    ∃ W : Nat → Nat → Hp → Prop, (∃ m, W 0 m (upd H1 D (.lst []))) ∧ ∀ i m H, W i m H →
      (J.stop i H ∧ Qd H) ∨ (J.go i H ∧ ∃ Nx : Hp → Prop, (∀ H', Nx H' → ∃ m', m' < m ∧ W (i + 1) m' H') ∧ ∀ x H', J.yld i H x H' → g x (wipe σ vs) H' fun σ2 H2 => wipe σ2 vs = wipe σ vs ∧ tYes σ2 H2 fun b H3 =>
        if b = true then te σ2 H3 fun y H4 => ∃ acc, H4 D = some (.lst acc) ∧ acc.length < sizeLine ∧ Nx (upd H4 D (.lst (acc ++ [y]))) else Nx H3) := by
  refine lc_dp w (fun i acc H => Same H1 H ∧ DpAll K (nw H0 H) acc (ds.take i)) hz (fun i acc H p => ?_) nD ⟨Same.refl _, .nil⟩ (fun i acc H p _ => hG H (p.1.trans (del_same _ _))) (fun i x H H' acc C N hi p hD y c nn => ?_) (fun H xs hD p => ?_)
  · rw [dpAll_len p.2, List.length_take]; omega
  · have hlt : i < ds.length := by omega
    refine hgm _ _ _ _ _ (fun σ2 H2 h => ⟨h.1, yes_te h.2⟩) (hs i x H H' acc ds[i] C hi (p.1.trans (del_same _ _)) hD y (List.getElem?_eq_getElem hlt) fun v H4 s4 d4 => ?_)
    have s5 := del_mono D s4
    refine c v H4 (s4 _ _ hD) ⟨p.1.trans s5, ?_⟩
    rw [List.take_add_one, List.getElem?_eq_getElem hlt]
    exact dpAll_app (DpAll.same (nw_mono s5) p.2) (.cons d4 .nil)
  · have e : ds.take n = ds := by rw [← hn]; exact List.take_length
    rw [e] at p
    exact hd H xs (p.1.trans (del_same _ _)) hD p.2
theorem nw_off {H G G' : Hp} {a : Addr} (hp : Pot H a) (o : Off a G G') : Same (nw H G) (nw H G') := fun b u e => by
  have hb : b ≠ a := by
    obtain ⟨x, y, ha, _⟩ := hp
    exact nw_ne ha e
  cases h1 : H b with
  | some w => unfold nw at e; rw [h1] at e; cases e
  | none =>
    rw [nw_at h1] at e ⊢
    exact o b u e hb
theorem nw_to {H G G' : Hp} {D : Addr} (s : Same G G') (n : G D = none) : Same (nw H G) (nw H (del G' D)) := fun b u e => by
  cases h1 : H b with
  | some w => unfold nw at e; rw [h1] at e; cases e
  | none =>
    rw [nw_at h1] at e ⊢
    rw [del_ne (fun z => by rw [z, n] at e; cases e)]
    exact s _ _ e
section
variable {P : Program} {w : World} {K : PySem.W.Frag} {mg : Str → Option Value} {base : Heap}
def spMixedLine (K : PySem.W.Frag) : Sp := fun vs H Q _ => ∃ (a d : Addr) (sg od : List Nat) (tp : Nat → Bool) (L : Nat → List (List Nat)) (H0 : Hp), vs = [.ref a, tx sg, .ref d] ∧ Pot H a ∧ Pot H0 a ∧ Off a H0 H ∧ LineAt K (nw H0 H) d sg od tp L ∧ sg.Nodup ∧ sg.length ≤ 3 ∧
  ∀ H' p od2, Pot H' a → Off a H H' → H p = none → LineAt K (nw H0 H') p sg od2 tp L → Q (.ref p) H'
theorem ok_law_mixed_line (T : All K mg) : FnOk P w K mg base CX0 3 T.f_law_mixed_line T.d_law_mixed_line ["_law_pot_here", "_law_signs", "_law_line_here"] (spMixedLine K) := by
  refine T.law_mixed_line.F.ok sc_law_mixed_line (fun vs H Q E h => ?_) (fun cdv A outer s H vs Q E hr h => ?_)
  · obtain ⟨a, d, sg, od, tp, L, H0, rfl, _⟩ := h
    rfl
  · obtain ⟨a, d, sg, od, tp, L, Hs, rfl, hp, hps, hos, hL, hn, h3, q⟩ := h
    refine ⟨_, pss_one (ps_ret (pe_callTy (call_dictP rfl) (by rfl) T.b_dict (show bootBuiltins "dict" = some (.type "dict") by decide +kernel) (pa_cons (pe_lc (own := [("_law_sign", 3)]) (g := gName 3) (tt := tYes) rfl sc_law_mixed_line.nd (pi_list (pe_call (ok_law_mixed T) (hr.mono (by decide)) (by rfl) T.law_mixed.g T.law_mixed.F.kp T.law_mixed.b .nil pass0 (pa_cons (pv 0) (pa_cons (pe_callTy (call_listT rfl) (by rfl) T.b_list PyProof.Rows.boot_list (pa_cons (pv 1) pa_nil)) pa_nil))))
          (blkOk_by (own := [("_law_sign", 3)]) (N := ["_law_pot_here", "_law_signs", "_law_line_here", "_law_sign"]) (sc := defScope s_law_mixed_line) (by decide +kernel))
          (fun _ _ _ _ _ => pg_name (i := 3) sc_law_mixed_line.nd rfl (by first | exact Or.inl rfl | exact Or.inr rfl)) (fun _ _ _ _ _ => pts_nil)
          (fun _ _ _ _ _ => (pe_tup (pa_cons (pv 3) (pa_cons (pe_dget (hu_of hr) (pv 2) (pv 3) (fun _ _ => rfl)) pa_nil))))) pa_nil))), ?_⟩
    dsimp only [cxOf]
    refine ⟨_, rfl, _, rfl, sg, rfl, sz (by omega), fun l nl => ?_⟩
    have hl0 := upd_same (H := H) (a := l) (o := .lst (sg.map fun c => tx [c]))
    have s0 := same_upd (o := .lst (sg.map fun c => tx [c])) nl
    have hp0 := hp.same s0
    generalize upd H l (.lst (sg.map fun c => tx [c])) = H0 at *
    refine ⟨a, l, _, rfl, hp0, .inl (.inl (.inl hl0)), by rw [List.length_map]; omega, fun H1 M l' hpm hp1 ho1 nM hM => ?_⟩
    obtain ⟨od2, hpo, rfl⟩ := perm_lift (fun c => tx [c]) hpm sg rfl
    have o01 := (Off.of (a := a) s0).trans ho1
    have hL1 := hL.same (nw_off hps o01)
    obtain ⟨hpo1, f, hd1, hf1⟩ := hL1
    have hd1 := nw_le _ _ hd1
    have hol : od2.length ≤ 3 := by rw [hpo.length_eq]; exact h3
    refine ⟨M, rfl, ⟨_, .inl (.inl hM)⟩, fun D nD => ?_⟩
    refine lc_dataN (K := K) (walk_list (xs := od2.map fun c => tx [c])) Hs (od2.map (dPr tp L)) (by rw [List.length_map, List.length_map]) (sz (by rw [List.length_map]; omega)) nD (fun H' s' => .inl (.inl (s' _ _ hM))) (fun j yv Hh H' acc dd C hj s4 hD yy hd c' => ?_) gName_mono (fun H5 zs s5 hD5 hA => ?_)
    · obtain ⟨rfl, hy⟩ := yy
      rw [List.getElem?_map] at hy hd
      obtain ⟨c, hc, rfl⟩ := Option.map_eq_some_iff.mp hy
      rw [hc] at hd
      cases hd
      have hcs := hpo.mem_iff.mp (List.mem_of_getElem? hc)
      have hg := DGet.k (k := kT c) (s4 _ _ hd1)
      rw [valV_od f (hpo1.mem_iff.mpr hcs)] at hg
      refine ⟨rfl, _, rfl, _, rfl, _, rfl, d, _, rfl, hg, by show 2 ≤ sizeLine; decide, fun t nt => ?_⟩
      have st := same_upd (o := .tup [tx [c], f c]) nt
      have htD : t ≠ D := fun z => by rw [z, hD] at nt; cases nt
      refine c' _ _ st (.tup (.inl (.inl (by rw [nw_at ((hos.trans (o01.trans (Off.of s4))).free nt (hp1.same s4)), del_ne htD, upd_same]))) (.cons (.str _) (.cons (Dp.same (nw_to (s4.trans st) nD) (hf1 c hcs)) .nil)))
    · obtain ⟨ps, f', rfl, hps, hf'⟩ := prs_of (hpo.nodup_iff.mpr hn) (DpAll.same (nw_mono (del_same _ _)) hA)
      refine ⟨D, ps, _, rfl, .inl (.inl hD5), _root_.L2.Paired.mapP hps (fun p kv h => sqT_same h nw_le), fun p np => ?_⟩
      have hm := merge_nodup (od2.map fun c => (kT c, f' c)) [] (by rw [List.nil_append]; exact kT_nodup (hpo.nodup_iff.mpr hn) f')
      rw [List.nil_append] at hm
      rw [hm]
      have sp := same_upd (o := .dK (od2.map fun c => (kT c, f' c))) np
      have hp5 := hp1.same s5
      have o15 := o01.trans (Off.of s5)
      have hap : p ≠ a := (hp5.ne np).symm
      refine q _ p od2 (hp5.same sp) (o15.trans (Off.of sp)) (o15.free np hp5) ⟨hpo, f', by rw [nw_at ((hos.trans o15).free np hp5), upd_same], fun c hc => ?_⟩
      exact Dp.same (nw_mono sp) (hf' c (hpo.mem_iff.mpr hc))
end
/-- a dict stands apart from hearings -/
theorem dH_upd {K : PySem.W.Frag} {H : Hp} {d : Addr} {kvs : List (Key × V)} {o : HO} {v : V} {b : Bool} {l : List (List Nat)} (hd : H d = some (.dK kvs)) (h : Dp K H v (dH b l)) : Dp K (upd H d o) v (dH b l) := by
  cases b with
  | true =>
    obtain ⟨t, xs, rfl, hS, hA⟩ := dp_tuple (show Dp K H v (.tuple (dHs l)) from h)
    rw [dpAll_hs hA] at hS
    refine .tup ?_ (hs_dpAll l)
    rcases hS with (hS | ⟨o, hS⟩) | hS
    · exact .inl (.inl (by rw [upd_ne (fun z => by rw [z, hd] at hS; cases hS)]; exact hS))
    · exact .inl (.inr ⟨o, by rw [upd_ne (fun z => by rw [z, hd] at hS; cases hS)]; exact hS⟩)
    · exact .inr hS
  | false =>
    obtain ⟨t, xs, rfl, hS, hA⟩ := dp_list (show Dp K H v (.list (dHs l)) from h)
    rw [dpAll_hs hA] at hS
    refine .lst ?_ (hs_dpAll l)
    rcases hS with (hS | ⟨o, hS⟩) | hS
    · exact .inl (.inl (by rw [upd_ne (fun z => by rw [z, hd] at hS; cases hS)]; exact hS))
    · exact .inl (.inr ⟨o, by rw [upd_ne (fun z => by rw [z, hd] at hS; cases hS)]; exact hS⟩)
    · exact .inr hS
theorem lay_hs : ∀ l : List (List Nat), (∀ t ∈ l, ∀ c ∈ t, c ≤ 122) → PyData.canLayAll0 (dHs l) = true
  | [], _ => rfl
  | t :: l, h => by
    have := lay_hs l fun u hu => h u (List.mem_cons_of_mem _ hu)
    have e : PyData.canLay0 (.str (tS t)) = true := by
      show PyData.strOk (tS t) = true
      unfold PyData.strOk
      rw [← Array.all_toList, List.all_eq_true]
      intro c hc
      have := h t List.mem_cons_self c (by simpa [tS] using hc)
      simp
      omega
    show (PyData.canLay0 (.str (tS t)) && PyData.canLayAll0 (dHs l)) = true
    rw [this, e]
    rfl
theorem depth_hs : ∀ l : List (List Nat), PyData.depthAll (dHs l) ≤ 1
  | [] => by simp [dHs, PyData.depthAll]
  | t :: l => by
    have := depth_hs l
    show PyData.depthAll (.str (tS t) :: dHs l) ≤ 1
    simp only [PyData.depthAll, PyData.depth]
    omega
theorem shaped_hs {l : List (List Nat)} (h : ∀ t ∈ l, ∀ c ∈ t, c ≤ 122) : SeqAt.shaped (.list (dHs l)) = true := by
  have h1 := lay_hs l h
  have h2 := depth_hs l
  unfold SeqAt.shaped
  rw [Bool.and_eq_true, decide_eq_true_iff]
  exact ⟨by simpa [PyData.canLay0] using h1, by simp only [PyData.depth]; omega⟩
theorem eqv_hs_nil (l : List (List Nat)) : PyData.eqv (.list (dHs l)) (.list []) = decide (l = []) := by
  cases l with
  | nil => simp [dHs, PyData.eqv, PyData.eqvAll]
  | cons t l => simp [dHs, PyData.eqv, PyData.eqvAll]
theorem nw_upd {H G : Hp} {d : Addr} {o : HO} (n : H d = none) : nw H (upd G d o) = upd (nw H G) d o := by
  funext b
  by_cases h : b = d
  · rw [h, nw_at n, upd_same, upd_same]
  · rw [upd_ne h]
    unfold nw
    rw [upd_ne h]
/-- what may be heard -/
def opts (sg : List Nat) : List (List Nat) := sg.map (fun c => [c]) ++ [[]]
theorem opts_mem {sg t : List Nat} : t ∈ opts sg ↔ t = [] ∨ ∃ b ∈ sg, t = [b] := by
  unfold opts
  rw [List.mem_append, List.mem_map, List.mem_singleton]
  constructor
  · rintro (⟨b, hb, rfl⟩ | h)
    · exact .inr ⟨b, hb, rfl⟩
    · exact .inl h
  · rintro (h | ⟨b, hb, rfl⟩)
    · exact .inr h
    · exact .inl ⟨b, hb, rfl⟩
theorem opts_len (sg : List Nat) : (opts sg).length = sg.length + 1 := by unfold opts; rw [List.length_append, List.length_map]; rfl
theorem opts_nodup {sg : List Nat} (h : sg.Nodup) : (opts sg).Nodup := by
  unfold opts
  refine List.nodup_append.mpr ⟨List.pairwise_map.mpr (h.imp fun {a b} n e => n (List.cons.inj e).1), by simp, fun x hx y hy e => ?_⟩
  obtain ⟨b, _, rfl⟩ := List.mem_map.mp hx
  rw [List.mem_singleton.mp hy] at e
  cases e
theorem opts_tx (sg : List Nat) : (sg.map fun c => tx [c]) ++ [V.str ""] = (opts sg).map tx := by
  unfold opts
  rw [List.map_append, List.map_map]
  rfl
theorem opts_low {sg : List Nat} (h : Lets sg) {t : List Nat} (ht : t ∈ opts sg) : ∀ c ∈ t, c ≤ 122 := fun c hc => by
  rcases opts_mem.mp ht with rfl | ⟨b, hb, rfl⟩
  · cases hc
  · rw [List.mem_singleton.mp hc]
    exact (h.az b hb).2
section
variable {P : Program} {w : World} {K : PySem.W.Frag} {mg : Str → Option Value} {base : Heap}
def spLawLine (K : PySem.W.Frag) : Sp := fun vs H Q _ => ∃ (a : Addr) (sg : List Nat), vs = [.ref a, tx sg] ∧ Pot H a ∧ Lets sg ∧
  ∀ H' p od tp L, Pot H' a → Off a H H' → H p = none → LineAt K (nw H H') p sg od tp L → HL sg L → Q (.ref p) H'
theorem ok_law_line (T : All K mg) : FnOk P w K mg base CX0 4 T.f_law_line T.d_law_line ["_law_pot_here", "_law_signs"] (spLawLine K) := by
  refine T.law_line.F.ok sc_law_line (fun vs H Q E h => ?_) (fun cdv A outer s H vs Q E hr h => ?_)
  · obtain ⟨a, sg, rfl, _⟩ := h
    rfl
  · obtain ⟨a, sg, rfl, hp, hl, q⟩ := h
    have hsl := hl.few
    have hsn : sg.Nodup := hl.up.imp fun h => Nat.ne_of_lt h
    refine ⟨_, pss_cons (ps_set (i := 2) sc_law_line.nd rfl (by first | exact Or.inl rfl | exact Or.inr rfl) pe_dnewK)
      (pss_cons (ps_for PassesOwn.never rfl (pi_str (pv 1)) (pg_name (i := 3) sc_law_line.nd rfl (by first | exact Or.inl rfl | exact Or.inr rfl))
        (pss_cons (ps_setLc (i := 4) (own := [("_law_one", 5)]) (g := gName 5) (by rfl) sc_law_line.nd rfl rfl (sw_true rfl rfl rfl (by decide +kernel)) (pi_list (pe_op op_cat (pe_callTy (call_listT rfl) (by rfl) T.b_list PyProof.Rows.boot_list (pa_cons (pv 1) pa_nil)) (pe_lst (pa_cons pe_str pa_nil))))
          (blkOk_by (own := [("_law_one", 5)]) (N := ["_law_pot_here", "_law_signs", "_law_found", "_law_sign", "_law_some", "_law_one"]) (sc := defScope s_law_line) (by decide +kernel))
          (fun _ _ _ _ _ => pg_name (i := 5) sc_law_line.nd rfl (by first | exact Or.inl rfl | exact Or.inr rfl)) (fun _ _ _ _ _ => (pts_one (pt_cmpR op_eq (pe_call (ok_law_draw T) (hr.mono (by decide)) (by rfl) T.law_draw.g T.law_draw.F.kp T.law_draw.b .nil pass0 (pa_cons (pv 0) (pa_cons pe_int pa_nil))) pe_int (nomark _))))
          (fun _ _ _ _ _ => (pv 5)))
      (pss_cons (ps_set (i := 4) sc_law_line.nd rfl (by first | exact Or.inl rfl | exact Or.inr rfl) (pe_call (ok_law_mixed T) (hr.mono (by decide)) (by rfl) T.law_mixed.g T.law_mixed.F.kp T.law_mixed.b .nil pass0 (pa_cons (pv 0) (pa_cons (pe_ifExp (pt_cmpR (op_neD (u64 hr)) (pv 4) (pe_lst pa_nil) (nomark _)) (pv 4) (pe_lst (pa_cons (pe_call (ok_law_pick T) (hr.mono (by decide)) (by rfl) T.law_pick.g T.law_pick.F.kp T.law_pick.b .nil pass0 (pa_cons (pv 0) (pa_cons (pe_op op_cat (pe_callTy (call_listT rfl) (by rfl) T.b_list PyProof.Rows.boot_list (pa_cons (pv 1) pa_nil)) (pe_lst (pa_cons pe_str pa_nil))) pa_nil))) pa_nil))) pa_nil))))
      (pss_one (ps_dput (hu_of hr) (pv 2) (pv 3) (pe_ifExp (pt_cmpR op_eq (pe_call (ok_law_draw T) (hr.mono (by decide)) (by rfl) T.law_draw.g T.law_draw.F.kp T.law_draw.b .nil pass0 (pa_cons (pv 0) (pa_cons pe_int pa_nil))) pe_int (nomark _)) (pe_callTy call_tuple_of (by rfl) T.b_tuple (show bootBuiltins "tuple" = some (.type "tuple") by decide +kernel) (pa_cons (pv 4) pa_nil)) (pv 4)) rfl)))))
      (pss_one (ps_ret (pe_call (ok_law_mixed_line T) (hr.mono (by decide)) (by rfl) T.law_mixed_line.g T.law_mixed_line.F.kp T.law_mixed_line.b .nil pass0 (pa_cons (pv 0) (pa_cons (pv 1) (pa_cons (pv 2) pa_nil))))))), ?_⟩
    dsimp only [cxOf]
    intro d nd
    have nad : a ≠ d := hp.ne nd
    dsimp only [gName]
    refine ⟨_, rfl, tS sg, rfl, ?_⟩
    refine for_it walk_tx (fun i σ H' => ∃ s3 s4, σ = [some (.ref a), some (tx sg), some (.ref d), s3, s4, none] ∧ Pot H' a ∧ Off a H H' ∧ ∃ (f : Nat → V) (tp : Nat → Bool) (L : Nat → List (List Nat)), H' d = some (.dK ((sg.take i).map fun c => (kT c, f c))) ∧
        ∀ c ∈ sg.take i, Dp K (nw H H') (f c) (dH (tp c) (L c)) ∧ L c ≠ [] ∧ (L c).Nodup ∧ (∀ t ∈ L c, t ∈ opts sg) ∧ (L c).length ≤ 4)
      ⟨_, _, rfl, hp.up nad, Off.of (same_upd nd), fun _ => .non, fun _ => false, fun _ => [], upd_same, fun c hc => nomatch hc⟩ (fun _ _ _ _ _ => trivial) (fun i x σ H1 H2 hi pp y => ?_) (fun σ H1 pp => ?_)
    · obtain ⟨s3, s4, rfl, hp1, ho1, f, tp, L, hd1, hv1⟩ := pp
      obtain ⟨rfl, ch, hch, rfl⟩ := y
      have hcs := List.mem_of_getElem? hch
      -- some
      refine ⟨_, rfl, sg, rfl, sz (by omega), fun l1 nl1 => ?_⟩
      have t1 := same_upd (o := .lst (sg.map fun c => tx [c])) nl1
      have h1 := upd_same (H := H2) (a := l1) (o := .lst (sg.map fun c => tx [c]))
      generalize upd H2 l1 (.lst (sg.map fun c => tx [c])) = H3 at *
      refine ⟨by show 1 ≤ sizeLine; decide, fun l2 nl2 => ?_⟩
      have t2 := same_upd (o := .lst [V.str ""]) nl2
      have h2 := upd_same (H := H3) (a := l2) (o := .lst [V.str ""])
      have h1' := t2 _ _ h1
      generalize upd H3 l2 (.lst [V.str ""]) = H4 at *
      refine ⟨l1, l2, _, _, rfl, rfl, h1', h2, by rw [List.length_map]; exact sz (by simp; omega), fun l3 nl3 => ?_⟩
      rw [opts_tx]
      have t3 := same_upd (o := .lst ((opts sg).map tx)) nl3
      have h3 := upd_same (H := H4) (a := l3) (o := .lst ((opts sg).map tx))
      have t13 := t1.trans (t2.trans t3)
      generalize upd H4 l3 (.lst ((opts sg).map tx)) = H5 at *
      have hp5 := hp1.same t13
      have na3 : a ≠ l3 := (hp1.same (t1.trans t2)).ne nl3
      refine ⟨l3, rfl, ⟨_, .inl (.inl h3)⟩, fun D nD => ?_⟩
      have naD : a ≠ D := hp5.ne nD
      have hol := opts_len sg
      refine lc_gen2 (walk_list (xs := (opts sg).map tx)) (fun H' => Pot H' a ∧ Off a H5 H') (fun j acc => ∃ l : List (List Nat), acc = l.map tx ∧ l.Sublist ((opts sg).take j)) (sz (by rw [List.length_map]; omega)) (fun j acc e => by
          obtain ⟨l, rfl, hs⟩ := e
          rw [List.length_map]
          exact Nat.le_trans hs.length_le (by rw [List.length_take]; omega)) ⟨[], rfl, List.Sublist.refl _⟩
        ⟨hp5.up naD, Off.of (same_upd nD)⟩ (fun H' acc acc' hD' r => ⟨r.1.up naD, r.2.up nD⟩) (fun H' r => .inl (.inl (r.2 _ _ h3 na3.symm))) (fun j x H6 H7 acc C N hj r hD ha y c n => ?_) (fun H6 xs r hD ha => ?_)
      · obtain ⟨rfl, hy⟩ := y
        rw [List.getElem?_map] at hy
        obtain ⟨t, ht, rfl⟩ := Option.map_eq_some_iff.mp hy
        obtain ⟨l, rfl, hs⟩ := ha
        have hst : (opts sg).take (j + 1) = (opts sg).take j ++ [t] := by rw [List.take_add_one, ht]; rfl
        refine ⟨rfl, _, rfl, a, 2, rfl, r.1, by decide, by decide, fun H8 dd hdd hp8 ho8 => ⟨rfl, ?_⟩⟩
        by_cases hz : dd = 0
        · refine ⟨_, rfl, ite_t (by simp [hz]) ⟨_, rfl, ?_⟩⟩
          exact c _ _ ⟨hp8, r.2.trans ho8⟩ (ho8 _ _ hD naD.symm) ⟨l ++ [t], by rw [List.map_append]; rfl, by rw [hst]; exact hs.append (List.Sublist.refl _)⟩
        · refine ⟨_, rfl, ite_f (by simp; omega) ?_⟩
          exact n _ ⟨hp8, r.2.trans ho8⟩ (ho8 _ _ hD naD.symm) ⟨l, rfl, by rw [hst]; exact hs.trans (List.sublist_append_left _ _)⟩
      obtain ⟨l, rfl, hs⟩ := ha
      rw [List.length_map, List.take_length] at hs
      have o6 := (ho1.trans (Off.of t13)).trans r.2
      have hd6 := r.2 _ _ (t13 _ _ hd1) nad.symm
      have hv6 : ∀ c ∈ sg.take i, Dp K (nw H H6) (f c) (dH (tp c) (L c)) ∧ L c ≠ [] ∧ (L c).Nodup ∧ (∀ t ∈ L c, t ∈ opts sg) ∧ (L c).length ≤ 4 := fun c hc => ⟨Dp.same (nw_off hp ((Off.of t13).trans r.2)) (hv1 c hc).1, (hv1 c hc).2⟩
      obtain ⟨hp6, ho56⟩ := r
      clear hv1 hd1 h1 h1' h2 h3 t1 t2 t3 t13 nl1 nl2 nl3 hp5 hp1 ho1 nD na3 ho56
      have hlm : ∀ t ∈ l, t ∈ opts sg := fun t ht => hs.mem ht
      have hln := hs.nodup (opts_nodup hsn)
      have hll := hs.length_le
      refine ⟨_, rfl, ?_⟩
      refine joinE (te := tIf (tTest (tOp (rNeD K) (tVar 4) (tLst tNil))) (tVar 4) _) (R := fun v H' => ∃ (b : Addr) (u : List (List Nat)), v = .ref b ∧ H' b = some (.lst (u.map tx)) ∧ u ≠ [] ∧ u.Nodup ∧ (∀ t ∈ u, t ∈ opts sg) ∧ u.length ≤ 4 ∧ Pot H' a ∧ Off a H6 H') (fun Q' hQ' => ?_) (fun v7 H7 pv => ?_)
      · refine ⟨_, rfl, by show 0 ≤ sizeLine; decide, fun e ne => ?_⟩
        have se := same_upd (o := .lst []) ne
        have hpe := hp6.same se
        have hDe := se _ _ hD
        refine ⟨.list (dHs l), .list [], .lst (.inl (.inl hDe)) (hs_dpAll l), .lst (.inl (.inl upd_same)) .nil, shaped_hs (fun t ht => opts_low hl (hlm t ht)), by decide +kernel, _, rfl, ?_⟩
        rw [eqv_hs_nil]
        generalize upd H6 e (.lst []) = He at *
        by_cases hnil : l = []
        · refine ite_f (by simp [hnil]) ?_
          refine ⟨_, rfl, _, rfl, sg, rfl, sz (by omega), fun l1 nl1 => ?_⟩
          have t1 := same_upd (o := .lst (sg.map fun c => tx [c])) nl1
          have h1 := upd_same (H := He) (a := l1) (o := .lst (sg.map fun c => tx [c]))
          generalize upd He l1 (.lst (sg.map fun c => tx [c])) = H3 at *
          refine ⟨by show 1 ≤ sizeLine; decide, fun l2 nl2 => ?_⟩
          have t2 := same_upd (o := .lst [V.str ""]) nl2
          have h2 := upd_same (H := H3) (a := l2) (o := .lst [V.str ""])
          have h1' := t2 _ _ h1
          generalize upd H3 l2 (.lst [V.str ""]) = H4 at *
          refine ⟨l1, l2, _, _, rfl, rfl, h1', h2, by rw [List.length_map]; exact sz (by simp; omega), fun l3 nl3 => ?_⟩
          rw [opts_tx]
          have t3 := same_upd (o := .lst ((opts sg).map tx)) nl3
          have h3 := upd_same (H := H4) (a := l3) (o := .lst ((opts sg).map tx))
          have t13 := se.trans (t1.trans (t2.trans t3))
          have na3 : a ≠ l3 := (hpe.same (t1.trans t2)).ne nl3
          generalize upd H4 l3 (.lst ((opts sg).map tx)) = H5' at *
          have hp5 := hp6.same t13
          refine ⟨a, _, rfl, hp5, .inr ⟨l3, _, rfl, na3.symm, .inl (.inl h3), by simp [opts], by rw [List.length_map, hol]; omega, fun H8 v hv hp8 ho8 => ?_⟩⟩
          obtain ⟨t, ht, rfl⟩ := List.mem_map.mp hv
          refine ⟨by show 1 ≤ sizeLine; decide, fun b nb => ?_⟩
          have sb := same_upd (o := .lst [tx t]) nb
          exact hQ' _ _ ⟨b, [t], rfl, upd_same, by simp, by simp, fun z hz => by rw [List.mem_singleton.mp hz]; exact ht, by simp, hp8.same sb, ((Off.of t13).trans ho8).trans (Off.of sb)⟩
        · refine ite_t (by simp [hnil]) ⟨_, rfl, ?_⟩
          exact hQ' _ _ ⟨D, l, rfl, hDe, hnil, hln, hlm, by omega, hpe, Off.of se⟩
      obtain ⟨b, u, rfl, hb, hune, hund, hum, hul, hp7, ho7⟩ := pv
      refine ⟨a, b, u.map tx, rfl, hp7, .inl (.inl (.inl hb)), by rw [List.length_map]; omega, fun H8 F l' hpm hp8 ho8 nF hF => ?_⟩
      obtain ⟨u', hpu, rfl⟩ := perm_lift tx hpm u rfl
      have o68 := ho7.trans ho8
      have o8 := o6.trans o68
      have hd8 := o68 _ _ hd6 nad.symm
      have naF : F ≠ a := fun z => by
        obtain ⟨x, y, ha, _⟩ := hp8
        rw [z, ha] at hF
        cases u' with
        | nil => cases hF
        | cons t u' =>
          have := HO.lst.inj (Option.some.inj hF)
          rw [List.map_cons] at this
          cases (List.cons.inj this).1
      have hv8 : ∀ c ∈ sg.take i, Dp K (nw H H8) (f c) (dH (tp c) (L c)) ∧ L c ≠ [] ∧ (L c).Nodup ∧ (∀ t ∈ L c, t ∈ opts sg) ∧ (L c).length ≤ 4 := fun c hc => ⟨Dp.same (nw_off hp o68) (hv6 c hc).1, (hv6 c hc).2⟩
      dsimp only [gName, sDPut]
      refine joinE (te := tIf (tTest (tOp rEq (tCall spDraw [] E0 (tCons (tVar 0) (tCons (tC (V.int 4)) tNil))) (tC (V.int 0)))) _ (tVar 4)) (R := fun v H' => ∃ b : Bool, Dp K (nw H H') v (dH b u') ∧ Pot H' a ∧ Off a H8 H') (fun Q' hQ' => ?_) (fun v9 H9 pv => ?_)
      · refine ⟨_, rfl, a, 4, rfl, hp8, by decide, by decide, fun H9 dd hdd hp9 ho9 => ⟨rfl, _, rfl, ?_⟩⟩
        have hF9 := ho9 _ _ hF naF
        by_cases hz : dd = 0
        · refine ite_t (by simp [hz]) ?_
          refine ⟨_, rfl, F, _, rfl, .inl ⟨.inl (.inl hF9), fun t nt => ?_⟩⟩
          have st := same_upd (o := .tup (u'.map tx)) nt
          exact hQ' _ _ ⟨true, dH_tup (by rw [nw_at ((o8.trans ho9).free nt hp9), upd_same]), hp9.same st, ho9.trans (Off.of st)⟩
        · refine ite_f (by simp; omega) ⟨_, rfl, ?_⟩
          exact hQ' _ _ ⟨false, dH_list (by rw [nw_at ((o6.trans ho7).free nF hp7)]; exact hF9), hp9, ho9⟩
      obtain ⟨b9, hv9, hp9, ho9⟩ := pv
      have hd9 := ho9 _ _ hd8 nad.symm
      have htk : sg.take (i + 1) = sg.take i ++ [ch] := by rw [List.take_add_one, hch]; rfl
      have hnt : ch ∉ sg.take i := fun z => by
        have := hsn.sublist (List.take_sublist (i + 1) sg)
        rw [htk] at this
        exact (List.nodup_append.mp this).2.2 ch z ch (by simp) rfl
      have hno : valV ((sg.take i).map fun c => (kT c, f c)) (kT ch) = none := by
        cases e : valV ((sg.take i).map fun c => (kT c, f c)) (kT ch) with
        | none => rfl
        | some v =>
          exfalso
          have h1 := valV_in e
          rw [List.map_map] at h1
          obtain ⟨x, hx, e2⟩ := List.mem_map.mp h1
          exact hnt (by rw [← kT_inj e2]; exact hx)
      refine ⟨_, rfl, _, rfl, d, _, rfl, DPut.k (k := kT ch) hd9 (by rw [List.length_map]; exact Nat.lt_of_le_of_lt (List.length_take_le _ _) (Nat.lt_of_lt_of_le (by omega : i < 1000) (sz (by omega)))), ?_⟩
      rw [putK_new v9 hno]
      refine ⟨_, _, rfl, hp9.up nad, (o8.trans ho9).up nd, fun x => if x = ch then v9 else f x, fun x => if x = ch then b9 else tp x, fun x => if x = ch then u' else L x, ?_, fun c hc => ?_⟩
      · rw [upd_same, htk, List.map_append]
        have e : ((sg.take i).map fun c => (kT c, if c = ch then v9 else f c)) = (sg.take i).map fun c => (kT c, f c) := List.map_congr_left fun x hx => by
          have z : x ≠ ch := fun z => hnt (by rw [← z]; exact hx)
          simp only [if_neg z]
        rw [e]
        simp
      · rw [nw_upd nd]
        have hda : nw H H9 d = some (.dK ((sg.take i).map fun c => (kT c, f c))) := by rw [nw_at nd]; exact hd9
        rw [htk] at hc
        by_cases z : c = ch
        · simp only [if_pos z]
          exact ⟨dH_upd hda hv9, fun z => hune (by rw [z] at hpu; exact List.Perm.eq_nil hpu.symm), hpu.nodup_iff.mpr hund, fun t ht => hum t (hpu.mem_iff.mp ht), by rw [hpu.length_eq]; exact hul⟩
        · simp only [if_neg z]
          have hc' : c ∈ sg.take i := (List.mem_append.mp hc).resolve_right fun h => z (List.mem_singleton.mp h)
          exact ⟨dH_upd hda (Dp.same (nw_off hp ho9) (hv8 c hc').1), (hv8 c hc').2⟩
    · obtain ⟨s3, s4, rfl, hp1, ho1, f, tp, L, hd1, hv1⟩ := pp
      rw [List.take_length] at hd1 hv1
      refine ⟨_, rfl, _, rfl, _, rfl, a, d, sg, sg, tp, L, H, rfl, hp1, hp, ho1, ⟨List.Perm.refl _, f, by rw [nw_at nd]; exact hd1, fun c hc => (hv1 c hc).1⟩, hsn, hsl, fun H' p od2 hp' ho' np hL' => ?_⟩
      exact q H' p od2 tp L hp' (ho1.trans ho') (ho1.free np hp1) hL' ⟨fun c hc => (hv1 c hc).2.1, fun c hc => (hv1 c hc).2.2.1, fun c hc t ht => opts_mem.mp ((hv1 c hc).2.2.2.1 t ht), fun c hc => (hv1 c hc).2.2.2.2⟩
end
end Lw
namespace Lw
open PySem PySem.Spec PyProof.Rows L3
open L2 hiding del del_same del_ne
def isDictD : PyData → Bool
  | .dict _ => true
  | _ => false
theorem kb_dict {d : PyData} : kitB (tyD d) "dict" = some (isDictD d) := by cases d <;> simp only [tyD, isDictD] <;> decide +kernel
theorem getD_mem {kd : List (PyData × PyData)} {c : Nat} {d : PyData} (h : getD kd c = some d) : ∃ p ∈ kd, p.2 = d := by
  unfold getD at h
  obtain ⟨p, hp, e⟩ := Option.map_eq_some_iff.mp h
  exact ⟨p, List.mem_of_find?_eq_some hp, e⟩
theorem dpm_same {P : Program} {w : World} {K : PySem.W.Frag} {H H' : Hp} {v : V} {d : PyData} (h : DpM P w K H v d) (s : Same H H') : DpM P w K H' v d := by
  cases h with
  | data h => exact .data (dpd_same h s)
  | mx m hs hk => exact .mx (m.same s) (dpDs_ext (LamX.ExtN.of s) hs) hk
theorem keyN_text : ∀ {d : PyData} {z : Str}, keyN d = .text z ↔ d = .str z
  | .none, z => by simp [keyN]
  | .bool b, z => by simp [keyN]
  | .int i, z => by simp [keyN]
  | .str x, z => by simp [keyN]
  | .tuple ds, z => by simp [keyN]
  | .list ds, z => by simp [keyN]
  | .dict ds, z => by simp [keyN]
theorem keyIs_iff {c : Nat} {d : PyData} : keyIs c d = true ↔ d = .str (tS [c]) := by
  cases d <;> simp [keyIs]
/-- what stands behind a letter -/
theorem valM_getD {K : PySem.W.Frag} {H : Hp} {c : Nat} : ∀ {es : List EntM} {ds : List PyData}, DpDs K H (es.map (·.2.2)) ds →
    (valM es (.text (tS [c])) = none ∧ getD ((es.map (·.1)).zip ds) c = none) ∨ ∃ v d, valM es (.text (tS [c])) = some v ∧ getD ((es.map (·.1)).zip ds) c = some d ∧ DpD K H v d
  | [], _, .nil => .inl ⟨rfl, rfl⟩
  | e :: es, d :: ds, .cons h t => by
    have ih := valM_getD (c := c) t
    by_cases q : e.1 = .str (tS [c])
    · refine .inr ⟨e.2.2, d, ?_, ?_, h⟩
      · unfold valM
        rw [List.find?_cons, decide_eq_true (keyN_text.mpr q)]
        rfl
      · unfold getD
        rw [List.map_cons, List.zip_cons_cons, List.find?_cons, show keyIs c (e.1, d).1 = true from keyIs_iff.mpr q]
        rfl
    · have e1 : valM (e :: es) (.text (tS [c])) = valM es (.text (tS [c])) := by
        unfold valM
        rw [List.find?_cons, decide_eq_false fun z => q (keyN_text.mp z)]
      have e2 : getD (((e :: es).map (·.1)).zip (d :: ds)) c = getD ((es.map (·.1)).zip ds) c := by
        unfold getD
        rw [List.map_cons, List.zip_cons_cons, List.find?_cons, show keyIs c (e.1, d).1 = false from Bool.eq_false_iff.mpr fun z => q (keyIs_iff.mp z)]
      rw [e1, e2]
      exact ih
section
variable {P : Program} {w : World} {K : PySem.W.Frag} {mg : Str → Option Value} {base : Heap}
def spLineM (P : Program) (w : World) (K : PySem.W.Frag) : Sp := fun vs H Q _ => ∃ (sg : List Nat) (v : V) (d : PyData), vs = [tx sg, v] ∧ DpM P w K H v d ∧ shortL d ∧ sg.length ≤ 3 ∧ ∀ H', Same H H' → Q (.bl (lineD sg d)) H'
theorem ok_is_line_overM (T : All K mg) : FnOk P w K mg base CX0 3 T.f_is_line_over T.d_is_line_over ["letters", "value"] (spLineM P w K) := by
  refine T.is_line_over.F.ok sc_is_line_over (fun vs H Q E h => ?_) (fun cdv A outer s H vs Q E hr h => ?_)
  · obtain ⟨sg, v, d, rfl, _⟩ := h
    rfl
  · obtain ⟨sg, v, d, rfl, hd, hz, h3, q⟩ := h
    refine ⟨_, pss_cons (ps_if (PW.pt (pw_or (pt_not (pt_val (pe_callB (call_isiMK (P := P) (w := w) (K := K) rfl rfl rfl) (by rfl) T.b_isinstance boot_isinstance (pa_cons (pv 1) (pa_cons (pe_bltn (v := .ty "dict") (by rfl) T.b_dict (by decide +kernel) rfl) pa_nil))))) (pw_or1 (pt_cmpR op_ne (pe_callB (cr_lenMK (P := P) (w := w) (K := K) rfl rfl rfl) (by rfl) T.b_len PySem.boot_len (pa_cons (pv 1) pa_nil)) (pe_callB call_lenT (by rfl) T.b_len PySem.boot_len (pa_cons (pv 0) pa_nil)) (nomark _))))) (pss_one (ps_ret pe_bl)) pss_nil)
      (pss_one (ps_ret (pe_callB (cr_all rfl) (by rfl) T.b_all PyProof.Rows.boot_all (pa_cons (pe_lc (own := [("letter", 2)]) (g := gName 2) (tt := tYes) rfl sc_is_line_over.nd (pi_str (pv 0))
          (blkOk_by (own := [("letter", 2)]) (N := ["letters", "value", "letter"]) (sc := defScope s_is_line_over) (by decide +kernel))
          (fun _ _ _ _ _ => pg_name (i := 2) sc_is_line_over.nd rfl (by first | exact Or.inl rfl | exact Or.inr rfl)) (fun _ _ _ _ _ => pts_nil)
          (fun _ _ _ _ _ => (pe_and (pe_cmp (pc_minK (P := P) (w := w) (K := K) rfl rfl rfl (u64 hr) (pv 2) (pv 1)))
        (pe_one (pe_call (ok_are_hearingsA T) (hr.mono (by decide)) (by rfl) T.are_hearings.g T.are_hearings.F.kp T.are_hearings.b .nil pass0 (pa_cons (pv 0) (pa_cons (pe_mgetK (P := P) (w := w) (K := K) rfl rfl rfl (u64 hr) (pv 1) (pv 2) (fun _ _ => rfl)) pa_nil))))))) pa_nil)))), ?_⟩
    dsimp only [cxOf]
    by_cases hs : ∃ kd, d = .dict kd
    · obtain ⟨kd, rfl⟩ := hs
      have hz : kd.length ≤ 100 ∧ ∀ p ∈ kd, shortH p.2 := hz
      have hty := hd.ty
      obtain ⟨a, es, ds, rfl, m, hD, ekd⟩ := hd.dict
      have hkl : es.length = kd.length := by
        have := hD.len
        rw [List.length_map] at this
        rw [ekd, List.length_zip, List.length_map]
        omega
      have eL : lineD sg (.dict kd) = (decide (kd.length = sg.length) && sg.all fun c => match getD kd c with | some d => hearsD sg d | none => false) := rfl
      rw [eL] at q
      refine ⟨_, rfl, .ref a, .ty "dict", .type "dict", .type "dict", true, rfl, .ty _, hty, kit_ty (by decide +kernel), true, rfl, iteF ?_⟩
      refine ⟨_, rfl, a, es, rfl, m.at, _, rfl, sg, rfl, sz (by omega), rfl, _, rfl, ?_⟩
      by_cases hl : kd.length = sg.length
      · refine ite_f (by simp [hkl, hl]) ?_
        rw [decide_eq_true hl, Bool.true_and] at q
        refine ⟨_, rfl, tS sg, rfl, fun D nD => ?_⟩
        refine lc_gen walk_tx (Same H) (fun i acc => acc = ((sg.take i).map fun c => match getD kd c with | some d => hearsD sg d | none => false).map V.bl) (sz (by omega)) (fun i acc e => by rw [e]; simp; omega) rfl (same_upd nD) (fun _ _ h => same_up h nD) (fun _ _ => trivial) (fun i x H2 H3 acc C N hi r hDD ha y c n => ?_) (fun H2 xs r hDD ha => ?_)
        · obtain ⟨rfl, ch, hch, rfl⟩ := y
          have fin : acc ++ [V.bl (match getD kd ch with | some d => hearsD sg d | none => false)] = ((sg.take (i + 1)).map fun c => match getD kd c with | some d => hearsD sg d | none => false).map V.bl := by
            rw [ha, List.take_add_one, hch]
            simp
          refine ⟨rfl, yes_te ?_⟩
          have hD2 := dpDs_ext (LamX.ExtN.of r) hD
          have m2 := (m.same r).at
          rcases valM_getD (c := ch) hD2 with ⟨e1, e2⟩ | ⟨u, dd, e1, e2, hu⟩
          · rw [← ekd] at e2
            rw [e2] at fin
            refine ⟨_, rfl, _, rfl, a, es, tS [ch], rfl, rfl, m2, ?_⟩
            rw [e1]
            exact ⟨_, rfl, ite_f rfl (c _ _ r hDD fin)⟩
          · rw [← ekd] at e2
            rw [e2] at fin
            obtain ⟨p, hp, ep⟩ := getD_mem e2
            refine ⟨_, rfl, _, rfl, a, es, tS [ch], rfl, rfl, m2, ?_⟩
            rw [e1]
            refine ⟨_, rfl, iteT ?_⟩
            refine ⟨_, rfl, _, rfl, _, rfl, a, es, tS [ch], u, rfl, rfl, m2, e1, ?_⟩
            exact ⟨sg, u, dd, rfl, hu, ep ▸ hz.2 p hp, fun H4 s4 => c _ _ (r.trans s4) (s4 _ _ hDD) fin⟩
        subst ha
        rw [List.take_length] at hDD
        refine ⟨D, sg.map fun c => match getD kd c with | some d => hearsD sg d | none => false, rfl, .inl (.inl hDD), ?_⟩
        have e3 : (sg.map fun c => match getD kd c with | some d => hearsD sg d | none => false).all id = sg.all fun c => match getD kd c with | some d => hearsD sg d | none => false := by rw [List.all_map]; rfl
        rw [e3]
        exact q _ r
      · refine ite_t (by simp [hkl]; omega) ?_
        rw [decide_eq_false hl, Bool.false_and] at q
        exact q _ (Same.refl _)
    · have e0 : isDictD d = false := by cases d <;> first | rfl | exact absurd ⟨_, rfl⟩ hs
      have e1 : lineD sg d = false := by cases d <;> first | rfl | exact absurd ⟨_, rfl⟩ hs
      have c1 := @kb_dict d
      rw [e0] at c1
      rw [e1] at q
      exact ⟨_, rfl, v, .ty "dict", .type (tyD d), .type "dict", false, rfl, .ty _, hd.ty, kit_ty c1, false, rfl, iteT (q _ (Same.refl _))⟩
def spIsLineM (P : Program) (w : World) (K : PySem.W.Frag) : Sp := fun vs H Q _ => ∃ (sg : List Nat) (v : V) (d : PyData), vs = [tx sg, v] ∧ DpM P w K H v d ∧ shortL d ∧ Lets sg ∧ ∀ H', Same H H' → Q (.bl (lineD sg d)) H'
theorem ok_is_lineM (T : All K mg) : FnOk P w K mg base CX0 4 T.f_is_line T.d_is_line ["letters", "value"] (spIsLineM P w K) := by
  refine T.is_line.F.ok sc_is_line (fun vs H Q E h => ?_) (fun cdv A outer s H vs Q E hr h => ?_)
  · obtain ⟨sg, v, d, rfl, _⟩ := h
    rfl
  · obtain ⟨sg, v, d, rfl, hd, hz, hl, q⟩ := h
    refine ⟨_, pss_cons (ps_if (pt_not (pt_val (pe_call (ok_are_letters T) (hr.mono (by decide)) (by rfl) T.are_letters.g T.are_letters.F.kp T.are_letters.b .nil pass0 (pa_cons (pv 0) pa_nil)))) (pss_one ps_never) pss_nil)
      (pss_one (ps_ret (pe_call (ok_is_line_overM T) (hr.mono (by decide)) (by rfl) T.is_line_over.g T.is_line_over.F.kp T.is_line_over.b .nil pass0 (pa_cons (pv 0) (pa_cons (pv 1) pa_nil))))), ?_⟩
    dsimp only [cxOf]
    refine ⟨_, rfl, sg, rfl, hl, fun H1 s1 => ⟨true, rfl, iteF ?_⟩⟩
    exact ⟨_, rfl, _, rfl, sg, v, d, rfl, dpm_same hd s1, hz, hl.few, fun H2 s2 => q _ (s1.trans s2)⟩
def oneIn (sg : List Nat) : List Nat → Bool
  | [c] => decide (c ∈ sg)
  | _ => false
theorem hear_eq (sg l : List Nat) : ((l.all fun c => decide (c ∈ sg)) && decide (l.length ≤ 1)) = (decide (l = []) || (decide (l.length = 1) && oneIn sg l)) := by
  match l with
  | [] => rfl
  | [c] => simp [oneIn]
  | a :: b :: l => simp
/-- a text, or of another type -/
def Wk (K : PySem.W.Frag) (H : Hp) (v : V) (d : PyData) : Prop := (∃ x, d = .str x ∧ v = .str x) ∨ ((∀ x, d ≠ .str x) ∧ TyX K H v (.type (tyD d)))
def spHearing (K : PySem.W.Frag) : Sp := fun vs H Q _ => ∃ (sg : List Nat) (v : V) (d : PyData), vs = [tx sg, v] ∧ Wk K H v d ∧ shortD d ∧ ∀ H', Same H H' → Q (.bl (hearD sg d)) H'
theorem ok_law_is_hearing (T : All K mg) : FnOk P w K mg base CX0 1 T.f_law_is_hearing T.d_law_is_hearing ["_law_signs", "_law_thing"] (spHearing K) := by
  refine T.law_is_hearing.F.ok sc_law_is_hearing (fun vs H Q E h => ?_) (fun cdv A outer s H vs Q E hr h => ?_)
  · obtain ⟨sg, v, d, rfl, _⟩ := h
    rfl
  · obtain ⟨sg, v, d, rfl, hd, hz, q⟩ := h
    refine ⟨_, pss_one (ps_ret (pe_and (pe_callB call_isi (by rfl) T.b_isinstance boot_isinstance (pa_cons (pv 1) (pa_cons (pe_bltn (v := .ty "str") (by rfl) T.b_str (by decide +kernel) rfl) pa_nil)))
        (pe_one (pe_or (pe_cmpR op_eq (pv 1) pe_str (by rfl))
        (pe_one (pe_and (pe_cmpR op_eq (pe_callB call_lenT (by rfl) T.b_len PySem.boot_len (pa_cons (pv 1) pa_nil)) pe_int (by rfl))
        (pe_one (pe_cmpR op_in_sign (pv 1) (pv 0) (by rfl))))))))), ?_⟩
    dsimp only [cxOf]
    have q := q _ (Same.refl _)
    rcases hd with ⟨x, rfl, rfl⟩ | ⟨hs, hd⟩
    · obtain ⟨l, rfl⟩ : ∃ l, x = tS l := ⟨x.cps.toList, rfl⟩
      have hz : l.length ≤ 1000 := hz
      have e : hearD sg (.str (tS l)) = (decide (l = []) || (decide (l.length = 1) && oneIn sg l)) := hear_eq sg l
      rw [e] at q
      refine ⟨_, rfl, _, .ty "str", .type "str", .type "str", true, rfl, .ty _, .base (.str _), kit_ty (by decide +kernel), _, rfl, iteT ?_⟩
      have e0 : (tx l = V.str "") ↔ l = [] := by
        constructor
        · intro z
          injection z with z
          exact tS_inj (b := []) z
        · rintro rfl; rfl
      refine ⟨_, rfl, rfl, _, rfl, ?_⟩
      by_cases h0 : l = []
      · rw [decide_eq_true h0, Bool.true_or] at q
        exact ite_t (decide_eq_true (e0.mpr h0)) q
      refine ite_f (decide_eq_false fun z => h0 (e0.mp z)) ?_
      rw [decide_eq_false h0, Bool.false_or] at q
      refine ⟨_, rfl, l, rfl, sz (by omega), rfl, _, rfl, ?_⟩
      by_cases h1 : l.length = 1
      · obtain ⟨c, rfl⟩ := List.length_eq_one_iff.mp h1
        refine ite_t (by simp) ⟨_, rfl, _, rfl, c, tS sg, rfl, rfl, ?_⟩
        rw [decide_eq_true h1, Bool.true_and] at q
        exact q
      · have h1' : ¬ (V.int (l.length : Int) = V.int 1) := fun z => h1 (by injection z with z; omega)
        rw [decide_eq_false h1, Bool.false_and] at q
        exact ite_f (decide_eq_false h1') q
    · have ee : hearD sg d = false := by cases d <;> first | rfl | exact absurd rfl (hs _)
      rw [ee] at q
      exact ⟨_, rfl, v, .ty "str", .type (tyD d), .type "str", false, rfl, .ty _, hd, kit_ty (kb_str hs), _, rfl, ite_f rfl q⟩
end
end Lw
namespace Lw
open PySem PySem.Spec PyProof.Rows L3
open L2 hiding del del_same del_ne
def Low (l : List Nat) : Prop := ∀ c ∈ l, 97 ≤ c ∧ c ≤ 122
theorem chr_low : ((List.range 26).all fun i => decide (Builtin.Str.reprChar 39 (i + 97) = [i + 97])) = true := by decide +kernel
theorem chr_low1 {c : Nat} (h : 97 ≤ c ∧ c ≤ 122) : Builtin.Str.reprChar 39 c = [c] := by
  have := of_decide_eq_true (List.all_eq_true.mp chr_low (c - 97) (List.mem_range.mpr (by omega)))
  rw [show c - 97 + 97 = c by omega] at this
  exact this
theorem fold_low : ∀ (l : List Nat) (acc : Array Nat), Low l → l.foldl (fun out c => out ++ (Builtin.Str.reprChar 39 c).toArray) acc = acc ++ l.toArray
  | [], acc, _ => by simp
  | c :: l, acc, h => by
    rw [List.foldl_cons, chr_low1 (h c List.mem_cons_self), fold_low l _ fun d hd => h d (List.mem_cons_of_mem _ hd)]
    simp
theorem repr_low {l : List Nat} (h : Low l) : reprText (tS l) = tS (39 :: l ++ [39]) := by
  have hq : reprQuote (tS l) = 39 := by
    unfold reprQuote
    have : (tS l).cps.contains 39 = false := by
      rw [← Bool.not_eq_true, Array.contains_iff_mem]
      intro z
      have := h 39 (by simpa [tS] using z)
      omega
    rw [this]
    rfl
  unfold reprText
  rw [hq, ← Array.foldl_toList]
  show (⟨(l.foldl _ #[39]).push 39⟩ : Str) = _
  rw [fold_low l _ h]
  unfold tS
  simp
theorem shown_low {l : List Nat} (h : Low l) : (PyData.str (tS l)).shown = tS (39 :: l ++ [39]) := by rw [PyData.shown_str, repr_low h]
/-- what a key of these dicts may be -/
def keyOk (d : PyData) : Prop := (∃ x, d = .str (tS x) ∧ Low x ∧ x.length ≤ 10) ∨ d = .int 0 ∨ d = .none ∨ ∃ c, (97 ≤ c ∧ c ≤ 122) ∧ d = .tuple [.str (tS [c])]
theorem tup_first : ((List.range 26).all fun i => decide ((PyData.tuple [.str (tS [i + 97])]).shown.cps[0]? = some 40)) = true := by decide +kernel
theorem shown_first {d : PyData} (h : keyOk d) : (∃ x, d = .str (tS x) ∧ Low x ∧ d.shown = tS (39 :: x ++ [39])) ∨ d.shown.cps[0]? ≠ some 39 := by
  rcases h with ⟨x, rfl, hx, _⟩ | rfl | rfl | ⟨c, hc, rfl⟩
  · exact .inl ⟨x, rfl, hx, shown_low hx⟩
  · exact .inr (by decide +kernel)
  · exact .inr (by decide +kernel)
  · refine .inr ?_
    have := of_decide_eq_true (List.all_eq_true.mp tup_first (c - 97) (List.mem_range.mpr (by omega)))
    rw [show c - 97 + 97 = c by omega] at this
    rw [this]
    decide
theorem shown_letter {d : PyData} (h : keyOk d) {c : Nat} (hc : 97 ≤ c ∧ c ≤ 122) (e : d.shown = (PyData.str (tS [c])).shown) : d = .str (tS [c]) := by
  have hl : Low [c] := fun z hz => by rw [List.mem_singleton.mp hz]; exact hc
  rw [shown_low hl] at e
  rcases shown_first h with ⟨x, rfl, hx, e2⟩ | n
  · rw [e2] at e
    have h2 := congrArg (fun l : List Nat => (l.drop 1).dropLast) (tS_inj e)
    have h3 : x = [c] := by simpa using h2
    rw [h3]
  · rw [e] at n
    exact absurd rfl n
theorem key_perm {ks : List PyData} {sg : List Nat} (hk : ∀ k ∈ ks, keyOk k) (nd : ks.Nodup) (sn : sg.Nodup) (sl : Low sg) :
    (ks.map (·.shown)).Perm (sg.map fun c => (PyData.str (tS [c])).shown) ↔ ks.length = sg.length ∧ ∀ c ∈ sg, PyData.str (tS [c]) ∈ ks := by
  have inj : ∀ {a b : Nat}, PyData.str (tS [a]) = PyData.str (tS [b]) → a = b := fun {a b} e => by
    have := tS_inj (PyData.str.inj e)
    simpa using this
  constructor
  · intro p
    refine ⟨by have := p.length_eq; simpa using this, fun c hc => ?_⟩
    have := p.mem_iff.mpr (List.mem_map.mpr ⟨c, hc, rfl⟩)
    obtain ⟨k, hk', e⟩ := List.mem_map.mp this
    rw [← shown_letter (hk k hk') (sl c hc) e]
    exact hk'
  · rintro ⟨hl, hm⟩
    have n2 : (sg.map fun c => PyData.str (tS [c])).Nodup := List.Pairwise.map _ (fun a b n e => n (inj e)) sn
    have p : (sg.map fun c => PyData.str (tS [c])).Perm ks := by
      refine (List.perm_ext_iff_of_nodup n2 nd).mpr fun x => ⟨fun hx => ?_, fun hx => ?_⟩
      · obtain ⟨c, hc, rfl⟩ := List.mem_map.mp hx
        exact hm c hc
      · exact Classical.byContradiction fun nx => by
          have h1 := @sub_lenN PyData (fun a b => Classical.propDecidable (a = b)) (x :: sg.map fun c => PyData.str (tS [c])) ks (List.nodup_cons.mpr ⟨nx, n2⟩) fun y hy => by
            rcases List.mem_cons.mp hy with rfl | hy
            · exact hx
            · obtain ⟨c, hc, rfl⟩ := List.mem_map.mp hy
              exact hm c hc
          rw [List.length_cons, List.length_map] at h1
          omega
    have := (p.map (·.shown)).symm
    rw [List.map_map] at this
    exact this
/-- a dict's keys and values, told twice -/
theorem getD_of {kd : List (PyData × PyData)} {c : Nat} {p : PyData × PyData} (nd : (kd.map (·.1)).Nodup) (hp : p ∈ kd) (e : p.1 = .str (tS [c])) : getD kd c = some p.2 := by
  induction kd with
  | nil => cases hp
  | cons q kd ih =>
    rw [List.map_cons, List.nodup_cons] at nd
    unfold getD
    rw [List.find?_cons]
    rcases List.mem_cons.mp hp with rfl | hp
    · rw [keyIs_iff.mpr e]
      rfl
    · have : keyIs c q.1 = false := Bool.eq_false_iff.mpr fun z => nd.1 (by rw [keyIs_iff.mp z, ← e]; exact List.mem_map.mpr ⟨p, hp, rfl⟩)
      rw [this]
      exact ih nd.2 hp
theorem line_due {kd : List (PyData × PyData)} {sg : List Nat} (hk : ∀ p ∈ kd, keyOk p.1) (nd : (kd.map (·.1)).Nodup) (sn : sg.Nodup) (sl : Low sg) :
    (((kd.map (·.1)).map (·.shown)).Perm (sg.map fun c => (PyData.str (tS [c])).shown) → lineD sg (.dict kd) = kd.all fun p => hearsD sg p.2) ∧
    (¬ ((kd.map (·.1)).map (·.shown)).Perm (sg.map fun c => (PyData.str (tS [c])).shown) → lineD sg (.dict kd) = false) := by
  have hk' : ∀ k ∈ kd.map (·.1), keyOk k := fun k h => by
    obtain ⟨p, hp, rfl⟩ := List.mem_map.mp h
    exact hk p hp
  rw [key_perm hk' nd sn sl, List.length_map]
  have eL : lineD sg (.dict kd) = (decide (kd.length = sg.length) && sg.all fun c => match getD kd c with | some d => hearsD sg d | none => false) := rfl
  constructor
  · rintro ⟨h1, h2⟩
    rw [eL, decide_eq_true h1, Bool.true_and, Bool.eq_iff_iff, List.all_eq_true, List.all_eq_true]
    constructor
    · intro h p hp
      have hp1 : p.1 ∈ kd.map (·.1) := List.mem_map.mpr ⟨p, hp, rfl⟩
      have : ∃ c ∈ sg, p.1 = .str (tS [c]) := by
        have pm := (key_perm hk' nd sn sl).mpr ⟨by rw [List.length_map]; exact h1, h2⟩
        have := pm.mem_iff.mp (List.mem_map.mpr ⟨p.1, hp1, rfl⟩)
        obtain ⟨c, hc, e⟩ := List.mem_map.mp this
        exact ⟨c, hc, shown_letter (hk p hp) (sl c hc) e.symm⟩
      obtain ⟨c, hc, e⟩ := this
      have := h c hc
      rw [getD_of nd hp e] at this
      exact this
    · intro h c hc
      obtain ⟨p, hp, e⟩ := List.mem_map.mp (h2 c hc)
      rw [getD_of nd hp e]
      exact h p hp
  · intro h
    rw [eL, Bool.and_eq_false_iff]
    by_cases h1 : kd.length = sg.length
    · right
      rw [← Bool.not_eq_true, List.all_eq_true]
      intro z
      refine h ⟨h1, fun c hc => ?_⟩
      have := z c hc
      cases e : getD kd c with
      | none => rw [e] at this; cases this
      | some d =>
        unfold getD at e
        obtain ⟨p, hp, _⟩ := Option.map_eq_some_iff.mp e
        have h1 := List.find?_some hp
        rw [← keyIs_iff.mp h1]
        exact List.mem_map.mpr ⟨p, List.mem_of_find?_eq_some hp, rfl⟩
    · exact .inl (decide_eq_false h1)
end Lw
namespace L3
open PySem PySem.Spec PyProof.Rows L2
inductive TxsAre : List Value → List (List Nat) → Prop
  | nil : TxsAre [] []
  | cons (x : List Nat) (t : Tok) {vs : List Value} {xs : List (List Nat)} : TxsAre vs xs → TxsAre (.str (tS x) t :: vs) (x :: xs)
theorem TxsAre.length : ∀ {vs : List Value} {xs : List (List Nat)}, TxsAre vs xs → vs.length = xs.length
  | _, _, .nil => rfl
  | _, _, .cons _ _ h => by rw [List.length_cons, List.length_cons, h.length]
end L3
namespace PyProof.Rows
open PySem
section
variable {prog : Program} {w : World} {A : Around} {E : Value → Shared → Prop} {s : Shared}
theorem collect_tup {Q : List Value → Shared → Prop} (it : Addr) {o : Obj} {items : Array Value} {n : Nat}
    (ho : s.heap.get? it = some o) (hc : o.cls = .type "tuple") (hd : o.data = .seq items n)
    (hQ : ∀ h', (∀ b o', s.heap.get? b = some o' → h'.get? b = some o') → s.heap.objs.size ≤ h'.objs.size → Q items.toList { s with heap := h' }) (hsz : items.size ≤ sizeLine) :
    wpAny (model prog w) A (collect (.ref it)) Q E s := by
  unfold collect
  refine wpAny_bind (wpAny_runValue (codeAny_builtin F.entry_proto_collect ?_))
  rw [Around.under_plainId F.plain_proto_collect _]
  show wpAny _ A.in1 (newList [] >>= fun l => again (.builtin "list.__iadd__" ⟨[l, .ref it], []⟩)) _ _ s
  refine wpAny_bind (wpAny_newObj_type ?_)
  refine wpAny_pure ⟨plainId_quiet F.plain_list_iadd _, codeAny_builtin F.entry_list_iadd ?_⟩
  rw [Around.under_plainId F.plain_list_iadd _]
  show wpAny _ A.in1 (Builtin.List.listExtendWith (.ref s.heap.objs.size) (.ref it) (.ref s.heap.objs.size)) _ _ _
  have hS : (s.heap.push { cls := .type "list", data := .seq ([] : List Value).toArray }).get? s.heap.objs.size = some { cls := .type "list", data := .seq #[] 0 } := Heap.get?_push_size _ rfl
  have hS₂ := Heap.get?_update_self (Obj.mapSeq (· ++ items)) hS rfl
  have fin' : wpAny (model prog w) A (match Value.ref s.heap.objs.size with
      | Value.ref a => do
        match (← load a).data with
          | Data.seq xs _ => pure xs.toList
          | _ => unsupported "internal:collect"
      | _ => unsupported "internal:collect") Q E { s with heap := (s.heap.push { cls := .type "list", data := .seq ([] : List Value).toArray }).update s.heap.objs.size (Obj.mapSeq (· ++ items)) } := by
    show wpAny _ A (load s.heap.objs.size >>= _) _ _ _
    refine wpAny_bind (wpAny_load hS₂ ?_)
    refine wpAny_pure ?_
    have e : ((#[] : Array Value) ++ items).toList = items.toList := by simp
    show Q ((#[] : Array Value) ++ items).toList _
    rw [e]
    refine hQ _ (fun b o' hb => ?_) (by rw [Heap.size_update, size_push']; exact Nat.le_succ _)
    exact (Heap.get?_update_other _ _ (Nat.ne_of_gt (Heap.lt_size hb))).trans (Heap.get?_push_of_some _ hb)
  refine wpAny_mono (wpAny_extend_seq (hsz := hsz) (A := A) (R := fun r s' => r = .ok (.ret (.ref s.heap.objs.size)) ∧ s' = { s with heap := (s.heap.push { cls := .type "list", data := .seq ([] : List Value).toArray }).update s.heap.objs.size (Obj.mapSeq (· ++ items)) })
    (s := { s with heap := s.heap.push { cls := .type "list", data := .seq ([] : List Value).toArray } }) _ it _ 0 (.inr rfl) hS (Heap.get?_push_of_some _ ho) hc hd ⟨rfl, rfl⟩) (fun fin s' h => ?_) (fun e s' h => ?_)
  · cases fin with
    | done f =>
      obtain ⟨e, rfl⟩ := h
      cases e
      exact fin'
    | again c' => exact ⟨h.1, codeAny_mono h.2 fun r s'' hr => by obtain ⟨rfl, rfl⟩ := hr; exact fin'⟩
  · exact absurd h.1 (by simp)
theorem sortedKTup {κ : KeyKind} (hO : κ.OneLt) {l : Addr} {o : Obj} {vs : List Value} {n : Nat} {Q : Value → Shared → Prop} (hl : s.heap.get? l = some o) (hc : o.cls = .type "tuple") (hd : o.data = .seq vs.toArray n) (h0 : KeysOf κ (pairsOf vs)) (hkk : ∀ v₁ v₂ rest, vs = v₁ :: v₂ :: rest → keyKind' (v₁ :: v₂ :: rest).toArray = pure oneType') (hL : vs.length ≤ sizeLine)
    (h : ∀ (h2 : Heap) (a : Addr) (e : Nat) (st' : SortSt), (arrOf st').Perm (pairsOf vs) → SortedToK κ (arrOf st') (pairsOf vs).size → (∀ b o', s.heap.get? b = some o' → h2.get? b = some o') → s.heap.objs.size ≤ a → h2.get? a = some (seqObj "list" ((arrOf st').map (·.2)) e) → Q (.ref a) { s with heap := h2 }) :
    wpAny (model prog w) A (call (.builtin "sorted") [.ref l]) Q E s := by
  refine Calls.call_function_entry kind_sorted plain_sorted entry_sorted (args_sorted1 _) ?_
  unfold Builtin.«sorted»
  refine wpAny_bind (m := checkCount "sorted" 1 1 _) (wpAny_pure ?_)
  refine wpAny_bind (collect_tup l hl hc hd (fun h' kh hsize => ?_) (by simpa using hL))
  refine wpAny_bind (wpAny_newList ?_)
  have hoL : (h'.push (seqObj "list" vs.toArray 0)).get? h'.objs.size = some (seqObj "list" vs.toArray 0) := Heap.get?_push_size _ rfl
  show wpAny _ _ _ _ _ { s with heap := h'.push (seqObj "list" vs.toArray 0) }
  refine wpAny_bind (wpAny_holding (wpAny_call_entry slot_list_sort ⟨_, hoL, rfl⟩ entry_list_sort (list_sort_treeKAny hO hoL h0 hkk hL fun st' a1 a2 => ⟨_, rfl, ?_⟩) (args_list_sort _)))
  obtain ⟨e, he⟩ := sortedHeap_at (out := (arrOf st').map (·.2)) hoL
  refine wpAny_pure ⟨_, rfl, h _ _ e st' a1 a2 (fun b o' hb => ?_) hsize he⟩
  have h1 := kh b o' hb
  have hlt := Heap.lt_size h1
  rw [sortedHeap_old (Nat.ne_of_lt hlt) (by rw [size_push']; exact Nat.lt_succ_of_lt hlt), Heap.get?_push_ne _ _ _ (Nat.ne_of_lt hlt)]
  exact h1
theorem sorted_strsTup {l : Addr} {o : Obj} {vs : List Value} {ss : List Str} {n : Nat} {Q : Value → Shared → Prop} (hl : s.heap.get? l = some o) (hc : o.cls = .type "tuple") (hd : o.data = .seq vs.toArray n) (hS : StrsAre vs ss) (hL : vs.length ≤ sizeLine)
    (h : ∀ (h2 : Heap) (a : Addr) (e : Nat) (out : Array Value) (ss' : List Str), StrsAre out.toList ss' → ss'.Perm ss → sortedS ss' = true → (∀ b o', s.heap.get? b = some o' → h2.get? b = some o') → s.heap.objs.size ≤ a → h2.get? a = some (seqObj "list" out e) → Q (.ref a) { s with heap := h2 }) :
    wpAny (model prog w) A (call (.builtin "sorted") [.ref l]) Q E s := by
  refine sortedKTup strKind_oneLt hl hc hd hS.keysOf (fun v₁ v₂ rest e => keyKind_strs (by rw [← e]; exact hS)) hL fun h2 a e st' hp hs k1 k2 k3 => ?_
  obtain ⟨ss', h1, h2', h3⟩ := sorted_out_str hS hp hs
  exact h _ _ e _ ss' h1 h2' h3 k1 k2 k3
end
end PyProof.Rows
namespace L3
open PySem PySem.Spec PyProof.Rows L2
section
variable {X : Cx}
def rSortedSS (K : PySem.W.Frag) : List V → Hp → VK → Prop := fun vs H Q => ∃ (v : V) (xs : List Str), vs = [v] ∧ Sq K H v (xs.map V.str) ∧ xs.length < 64 ∧
  ∀ (ys : List Str) (p : Addr), ys.Perm xs → sortedS ys = true → H p = none → Q (.ref p) (upd H p (.lst (ys.map V.str)))
theorem cr_sortedSS {K : PySem.W.Frag} (hK : X.K = K) : CallR X (.builtin "sorted") (rSortedSS K) := by
  subst hK
  intro pins s σ H vs us Q I r h
  obtain ⟨v, xs, rfl, ⟨a, rfl, hs⟩, h64, q⟩ := h
  rcases hs with hs | hs
  · exact cr_sortedS pins s σ H _ us Q I r ⟨a, xs, rfl, hs, h64, q⟩
  · obtain ⟨its, rv, ⟨o, ho, hc, n, hd⟩, _⟩ := I.tuple hs
    rw [Vals.ref1 r]
    have hlen0 := rv.length
    rw [List.length_map] at hlen0
    refine PyProof.Rows.sorted_strsTup ho hc hd rv.strs (by rw [← hlen0]; exact small64 h64) fun h2 b e out ys h1 hp h3 k1 k2 k3 => ?_
    have hlen : (ys.map V.str).length ≤ sizeLine := by rw [List.length_map, hp.length_eq]; exact small64 h64
    exact ⟨.ref _, upd H b (.lst (ys.map V.str)), I.laid (t' := s.toks) k1 k2 ⟨hlen, out.toList, e, vals_of_strs h1, k3⟩, rfl, q ys _ hp h3 (I.hok.fresh k2)⟩
end
end L3
namespace Lw
open PySem PySem.Spec PyProof.Rows L3
open L2 hiding del del_same del_ne
structure Shw (d : PyData) : Prop where
  l : d.leavesShort 10 = true
  s : d.showable = true
  w : d.weight ≤ 20000
  p : d.depth ≤ 40
theorem Shw.fits {d : PyData} (h : Shw d) : d.shown.length ≤ sizeLine := PyData.shown_fits (B := 10) (by decide) (by decide) h.l (Nat.le_trans h.w (by decide))
structure GoodT (d : PyData) : Prop where
  sh : Shw d
  short : shortL d
  kd : ∀ kd, d = .dict kd → (∀ p ∈ kd, keyOk p.1) ∧ (kd.map (·.1)).Nodup ∧ kd.length ≤ 10
theorem Low.lt {l : List Nat} (h : Low l) : ∀ c ∈ l, c < 123 := fun c hc => by have := (h c hc).2; omega
theorem ok_low {l : List Nat} (h : ∀ c ∈ l, c < 123) : PyData.strOk (tS l) = true := by
  show (tS l).cps.all (· < 0x110000) = true
  rw [Array.all_eq_true_iff_forall_mem]
  intro c hc
  exact decide_eq_true (by have := h c (by simpa [tS] using hc); omega)
theorem tup_okB : ((List.range 26).all fun i => PyData.strOk (PyData.tuple [.str (tS [i + 97])]).shown && decide ((PyData.tuple [.str (tS [i + 97])]).shown.length ≤ 20)) = true := by decide +kernel
theorem key_facts {d : PyData} (h : keyOk d) : d.showable = true ∧ d.shown.length ≤ sizeLine ∧ d.depth ≤ 50 ∧ PyData.strOk d.shown = true := by
  rcases h with ⟨x, rfl, hx, hn⟩ | rfl | rfl | ⟨c, hc, rfl⟩
  · refine ⟨by simp only [PyData.showable], ?_, by simp only [PyData.depth]; omega, ?_⟩
    · rw [shown_low hx]
      show (39 :: x ++ [39]).toArray.size ≤ _
      rw [sizeLine_eq]
      simp
      omega
    · rw [shown_low hx]
      refine ok_low fun c hc => ?_
      rcases List.mem_append.mp hc with hc | hc
      · rcases List.mem_cons.mp hc with rfl | hc
        · decide
        · exact hx.lt c hc
      · rw [List.mem_singleton.mp hc]; decide
  · exact ⟨by decide +kernel, by decide +kernel, by decide +kernel, by decide +kernel⟩
  · exact ⟨by decide +kernel, by decide +kernel, by decide +kernel, by decide +kernel⟩
  · have := List.all_eq_true.mp tup_okB (c - 97) (List.mem_range.mpr (by omega))
    rw [show c - 97 + 97 = c by omega, Bool.and_eq_true] at this
    refine ⟨by simp [PyData.showable, PyData.showableAll], Nat.le_trans (of_decide_eq_true this.2) (by decide +kernel), by simp [PyData.depth, PyData.depthAll], this.1⟩
theorem mxu_ne {P : Program} {w : World} {a : Addr} {u : HO} {es : List EntM} (m : MxU P w a u es) : (∀ xs, u ≠ .lst xs) ∧ (∀ xs, u ≠ .tup xs) ∧ ∀ o v, u ≠ .frz o v := by
  rcases m with rfl | ⟨kvs, rfl, _⟩ <;> exact ⟨fun _ z => (nomatch z), fun _ z => (nomatch z), fun _ _ z => (nomatch z)⟩
theorem lock_at {H G : Hp} {d b : Addr} {u o' : HO} {o : Obj} (s : Same (upd H d (.frz o u)) G) (hd : H d = some u) (h : H b = some o') (n : o' ≠ u) : G b = some o' := by
  refine s _ _ ?_
  rw [upd_ne fun z => n (by rw [z, hd] at h; exact (Option.some.inj h).symm)]
  exact h
theorem sqL_lock {P : Program} {w : World} {K : PySem.W.Frag} {H G : Hp} {d a : Addr} {u : HO} {es : List EntM} {o : Obj} {xs : List V} (s : Same (upd H d (.frz o u)) G) (hd : H d = some u) (m : MxU P w d u es) (h : SqL K H a xs) : SqL K G a xs := by
  obtain ⟨n1, n2, n3⟩ := mxu_ne m
  rcases h with (h | ⟨o', h⟩) | h
  · exact .inl (.inl (lock_at s hd h (fun z => n1 _ z.symm)))
  · exact .inl (.inr ⟨o', lock_at s hd h (fun z => n3 _ _ z.symm)⟩)
  · exact .inr h
theorem sqT_lock {P : Program} {w : World} {K : PySem.W.Frag} {H G : Hp} {d a : Addr} {u : HO} {es : List EntM} {o : Obj} {xs : List V} (s : Same (upd H d (.frz o u)) G) (hd : H d = some u) (m : MxU P w d u es) (h : SqT K H a xs) : SqT K G a xs := by
  obtain ⟨n1, n2, n3⟩ := mxu_ne m
  rcases h with (h | ⟨o', h⟩) | h
  · exact .inl (.inl (lock_at s hd h (fun z => n2 _ z.symm)))
  · exact .inl (.inr ⟨o', lock_at s hd h (fun z => n3 _ _ z.symm)⟩)
  · exact .inr h
mutual
theorem dp_lock {P : Program} {w : World} {K : PySem.W.Frag} {H G : Hp} {d : Addr} {u : HO} {es : List EntM} {o : Obj} (s : Same (upd H d (.frz o u)) G) (hd : H d = some u) (m : MxU P w d u es) : ∀ {v : V} {x : PyData}, Dp K H v x → Dp K G v x
  | _, _, .non => .non
  | _, _, .bl b => .bl b
  | _, _, .int i => .int i
  | _, _, .str x => .str x
  | _, _, .lst h a => .lst (sqL_lock s hd m h) (dpAll_lock s hd m a)
  | _, _, .tup h a => .tup (sqT_lock s hd m h) (dpAll_lock s hd m a)
theorem dpAll_lock {P : Program} {w : World} {K : PySem.W.Frag} {H G : Hp} {d : Addr} {u : HO} {es : List EntM} {o : Obj} (s : Same (upd H d (.frz o u)) G) (hd : H d = some u) (m : MxU P w d u es) : ∀ {vs : List V} {xs : List PyData}, DpAll K H vs xs → DpAll K G vs xs
  | _, _, .nil => .nil
  | _, _, .cons a b => .cons (dp_lock s hd m a) (dpAll_lock s hd m b)
end
theorem ty_lock {P : Program} {w : World} {K : PySem.W.Frag} {H G : Hp} {d : Addr} {u : HO} {es : List EntM} {o : Obj} (s : Same (upd H d (.frz o u)) G) (hd : H d = some u) (m : MxU P w d u es) {v : V} {x : PyData} (h : DpD K H v x) : TyX K G v (.type (tyD x)) := by
  cases h with
  | data h => exact tyx_dp (dp_lock s hd m h)
  | lst h _ => exact tyx_sqL (sqL_lock s hd m h)
  | tup h _ => exact tyx_sqT (sqT_lock s hd m h)
  | @dct a kvs ds kd h _ e =>
    subst e
    by_cases hb : a = d
    · subst hb
      rw [hd] at h
      cases h
      exact .fDict (s _ _ upd_same)
    · exact .base (.dK (s _ _ (by rw [upd_ne hb]; exact h)))
theorem wk_lock {P : Program} {w : World} {K : PySem.W.Frag} {H G : Hp} {d : Addr} {u : HO} {es : List EntM} {o : Obj} (s : Same (upd H d (.frz o u)) G) (hd : H d = some u) (m : MxU P w d u es) {v : V} {x : PyData} (h : DpD K H v x) : Wk K G v x := by
  by_cases hs : ∃ y, x = .str y
  · obtain ⟨y, rfl⟩ := hs
    exact .inl ⟨y, rfl, h.str_inv⟩
  · exact .inr ⟨fun y z => hs ⟨y, z⟩, ty_lock s hd m h⟩
/-- what is behind the lock -/
theorem unlock_same {H G : Hp} {d : Addr} {u : HO} {o : Obj} (s : Same (upd H d (.frz o u)) G) (hd : H d = some u) : Same H (upd G d u) := fun b x e => by
  by_cases hb : b = d
  · subst hb
    rw [hd] at e
    rw [upd_same]
    exact e
  · rw [upd_ne hb]
    exact s _ _ (by rw [upd_ne hb]; exact e)
theorem dpAll_strs {K : PySem.W.Frag} {H : Hp} : ∀ ys : List Str, DpAll K H (ys.map V.str) (ys.map .str)
  | [] => .nil
  | y :: ys => .cons (.str y) (dpAll_strs ys)
theorem eqv_strs (l m : List Str) : PyData.eqv (.list (l.map .str)) (.list (m.map .str)) = decide (l = m) := by
  simp only [PyData.eqv]
  exact eqv_map _ (fun a b => by
    show (a == b) = _
    by_cases h : a = b
    · subst h; simp
    · simp [h]) l m
theorem lay_strs : ∀ {ys : List Str}, (∀ y ∈ ys, PyData.strOk y = true) → PyData.canLayAll0 (ys.map .str) = true
  | [], _ => rfl
  | y :: ys, h => by
    simp only [List.map_cons, PyData.canLayAll0, PyData.canLay0, Bool.and_eq_true]
    exact ⟨h y List.mem_cons_self, lay_strs fun z hz => h z (List.mem_cons_of_mem _ hz)⟩
theorem depth_strs : ∀ ys : List Str, PyData.depthAll (ys.map .str) = 0
  | [] => rfl
  | y :: ys => by simp [PyData.depthAll, PyData.depth, depth_strs ys]
theorem shaped_strs {ys : List Str} (h : ∀ y ∈ ys, PyData.strOk y = true) : SeqAt.shaped (.list (ys.map .str)) = true := by
  have h1 := lay_strs h
  have h2 := depth_strs ys
  unfold SeqAt.shaped
  rw [Bool.and_eq_true, decide_eq_true_iff]
  exact ⟨by simpa [PyData.canLay0] using h1, by simp only [PyData.depth]; omega⟩
theorem sorted_eq {l m : List Str} (p : l.Perm m) (hl : sortedS l = true) (hm : sortedS m = true) : l = m :=
  p.eq_of_pairwise (fun a b _ _ h1 h2 => by
    have e : a.cps.toList = b.cps.toList := List.le_antisymm (List.not_lt.mp h1) (List.not_lt.mp h2)
    cases a; cases b
    simp only [Str.mk.injEq]
    exact Array.toList_inj.mp e) (sorted_pair hl) (sorted_pair hm)
section
variable {P : Program} {w : World} {K : PySem.W.Frag} {mg : Str → Option Value} {base : Heap}
theorem u60 {k : Nat} {A : Around} (hr : Room k A) : A.units + 60 < cLine := by have := hr.un; omega
def spDue (P : Program) (w : World) (K : PySem.W.Frag) : Sp := fun vs H Q _ => ∃ (sg : List Nat) (v : V) (d : PyData), vs = [tx sg, v] ∧ DpM P w K H v d ∧ GoodT d ∧ Lets sg ∧ ∀ H', Same H H' → Q (.bl (lineD sg d)) H'
theorem ok_law_is_due (T : All K mg) : FnOkG P w K mg base CX0 4 T.f_law_is_due T.d_law_is_due ["_law_signs", "_law_thing"] (spDue P w K) := by
  refine okG T.law_is_due.F sc_law_is_due (fun vs H Q E h => ?_) (fun cdv A outer s H vs Q E hr hG h => ?_)
  · obtain ⟨sg, v, d, rfl, _⟩ := h
    rfl
  · obtain ⟨sg, v, d, rfl, hd, hg, hl, q⟩ := h
    refine ⟨_, pss_cons (ps_if (pt_not (pt_val (pe_callB (call_isiMK (P := P) (w := w) (K := K) rfl rfl rfl) (by rfl) T.b_isinstance boot_isinstance (pa_cons (pv 1) (pa_cons (pe_bltn (v := .ty "dict") (by rfl) T.b_dict (by decide +kernel) rfl) pa_nil))))) (pss_one (ps_ret pe_bl)) pss_nil)
      (pss_cons (ps_if (pt_cmpR (op_neD (u64 hr)) (pe_callB (cr_sortedSS (K := K) rfl) (by rfl) T.b_sorted PyProof.Rows.boot_sorted (pa_cons (pe_lock (pe_lc (own := [("_law_key", 2)]) (g := gName 2) (tt := tYes) rfl sc_law_is_due.nd (pi_keysXK (P := P) (w := w) rfl rfl (pv 1))
          (blkOk_by (own := [("_law_key", 2)]) (N := ["_law_signs", "_law_thing", "_law_key", "_law_sign", "_law_hearings", "_law_one"]) (sc := defScope s_law_is_due) (by decide +kernel))
          (fun _ _ _ _ _ => pg_name (i := 2) sc_law_is_due.nd rfl (by first | exact Or.inl rfl | exact Or.inr rfl)) (fun _ _ _ _ _ => pts_nil)
          (fun _ _ _ _ _ => (pe_callB (call_reprAK rfl (by exact u60 hr) hG) (by rfl) T.b_repr (by decide +kernel) (pa_cons (pv 2) pa_nil))))) pa_nil)) (pe_callB (cr_sortedSS (K := K) rfl) (by rfl) T.b_sorted PyProof.Rows.boot_sorted (pa_cons (pe_lc (own := [("_law_sign", 3)]) (g := gName 3) (tt := tYes) rfl sc_law_is_due.nd (pi_str (pv 0))
          (blkOk_by (own := [("_law_sign", 3)]) (N := ["_law_signs", "_law_thing", "_law_key", "_law_sign", "_law_hearings", "_law_one"]) (sc := defScope s_law_is_due) (by decide +kernel))
          (fun _ _ _ _ _ => pg_name (i := 3) sc_law_is_due.nd rfl (by first | exact Or.inl rfl | exact Or.inr rfl)) (fun _ _ _ _ _ => pts_nil)
          (fun _ _ _ _ _ => (pe_callB (call_reprAK rfl (by exact u60 hr) hG) (by rfl) T.b_repr (by decide +kernel) (pa_cons (pv 3) pa_nil)))) pa_nil)) (nomark _)) (pss_one (ps_ret pe_bl)) pss_nil)
      (pss_cons (ps_lock (ps_for PassesOwn.never rfl (pi_valsXK (P := P) (w := w) rfl rfl (pv 1)) (pg_name (i := 4) sc_law_is_due.nd rfl (by first | exact Or.inl rfl | exact Or.inr rfl))
        (pss_cons (ps_if (PW.pt (pw_and (pt_not (pt_val (pe_callB call_isi (by rfl) T.b_isinstance boot_isinstance (pa_cons (pv 4) (pa_cons (pe_bltn (v := .ty "list") (by rfl) T.b_list (by decide +kernel) rfl) pa_nil))))) (pw_and1 (pt_not (pt_val (pe_callB call_isi (by rfl) T.b_isinstance boot_isinstance (pa_cons (pv 4) (pa_cons (pe_bltn (v := .ty "tuple") (by rfl) T.b_tuple (by decide +kernel) rfl) pa_nil)))))))) (pss_one (ps_ret pe_bl)) pss_nil)
      (pss_cons (ps_if (pt_cmpR op_eq (pe_callB call_len_seq (by rfl) T.b_len PySem.boot_len (pa_cons (pv 4) pa_nil)) pe_int (nomark _)) (pss_one (ps_ret pe_bl)) pss_nil)
      (pss_one (ps_if (PW.pt (pw_or (pt_not (pt_val (pe_callB (cr_all rfl) (by rfl) T.b_all PyProof.Rows.boot_all (pa_cons (pe_lc (own := [("_law_one", 5)]) (g := gName 5) (tt := tYes) rfl sc_law_is_due.nd (pi_sq (pv 4))
          (blkOk_by (own := [("_law_one", 5)]) (N := ["_law_signs", "_law_thing", "_law_key", "_law_sign", "_law_hearings", "_law_one"]) (sc := defScope s_law_is_due) (by decide +kernel))
          (fun _ _ _ _ _ => pg_name (i := 5) sc_law_is_due.nd rfl (by first | exact Or.inl rfl | exact Or.inr rfl)) (fun _ _ _ _ _ => pts_nil)
          (fun _ _ _ _ _ => (pe_call (ok_law_is_hearing T) (hr.mono (by decide)) (by rfl) T.law_is_hearing.g T.law_is_hearing.F.kp T.law_is_hearing.b .nil pass0 (pa_cons (pv 0) (pa_cons (pv 5) pa_nil))))) pa_nil)))) (pw_or1 (pt_cmpR op_lt (pe_callB cr_lenSetT (by rfl) T.b_len PySem.boot_len (pa_cons (pe_callTy (cr_setTs rfl) (by rfl) T.b_set (show bootBuiltins "set" = some (.type "set") by decide +kernel) (pa_cons (pv 4) pa_nil)) pa_nil)) (pe_callB call_len_seq (by rfl) T.b_len PySem.boot_len (pa_cons (pv 4) pa_nil)) (nomark _))))) (pss_one (ps_ret pe_bl)) pss_nil))))))
      (pss_one (ps_ret pe_bl)))), ?_⟩
    dsimp only [cxOf]
    by_cases hs : ∃ kd, d = .dict kd
    · obtain ⟨kd, rfl⟩ := hs
      have hty := hd.ty
      obtain ⟨a, es, ds, rfl, m, hD, ekd⟩ := hd.dict
      obtain ⟨⟨u, hu, mu⟩, hks⟩ := m
      obtain ⟨hk, hnd, hkl⟩ := hg.kd kd rfl
      have hlen : es.length = ds.length := by
        have := hD.len
        rw [List.length_map] at this
        exact this
      have hel : es.length ≤ 10 := by
        rw [ekd, List.length_zip, List.length_map] at hkl
        omega
      have ek : kd.map (·.1) = es.map (·.1) := by rw [ekd]; exact zip_fstD (by rw [List.length_map]; exact hlen)
      have hsn : sg.Nodup := hl.up.imp fun h => Nat.ne_of_lt h
      obtain ⟨due1, due2⟩ := line_due hk hnd hsn hl.az
      refine ⟨_, rfl, .ref a, .ty "dict", .type "dict", .type "dict", true, rfl, .ty _, hty, kit_ty (by decide +kernel), true, rfl, iteF ?_⟩
      refine ⟨a, u, hu, mut_mx mu, fun od => ?_⟩
      refine ⟨_, rfl, a, od, u, es, rfl, upd_same, mu, fun D nD => ?_⟩
      have naD : D ≠ a := fun z => by rw [z, upd_same] at nD; cases nD
      have hk' : ∀ e ∈ es, keyOk e.1 := fun e he => by
        have : e.1 ∈ kd.map (·.1) := by rw [ek]; exact List.mem_map.mpr ⟨e, he, rfl⟩
        obtain ⟨p, hp, e2⟩ := List.mem_map.mp this
        rw [← e2]
        exact hk p hp
      refine lc_gen walk_mk (Same (upd H a (.frz od u))) (fun i acc => acc = ((es.take i).map fun e => e.1.shown).map V.str) (sz (by omega)) (fun i acc e => by rw [e]; simp; omega) rfl (same_upd nD) (fun _ _ h => same_up h nD) (fun H' s' => s' _ _ upd_same) (fun i x H2 H3 acc C N hi r hDD ha y c n => ?_) (fun H2 xs r hDD ha => ?_)
      · obtain ⟨rfl, e, he, rfl⟩ := y
        have hm := List.mem_of_getElem? he
        obtain ⟨f1, f2, f3, _⟩ := key_facts (hk' e hm)
        refine ⟨rfl, yes_te ?_⟩
        refine ⟨_, rfl, e.2.1, e.1, rfl, .data (dp_lock r hu mu (hks e hm).1), f1, f2, f3, ?_⟩
        exact c _ _ r hDD (by rw [ha, List.take_add_one, he]; simp)
      subst ha
      rw [List.take_length] at hDD
      have s1 := unlock_same r hu
      have hD1 : upd H2 a u D = some (.lst ((es.map fun e => e.1.shown).map V.str)) := by rw [upd_ne naD]; exact hDD
      have hu1 : upd H2 a u a = some u := upd_same
      refine ⟨r _ _ upd_same, ?_⟩
      generalize upd H2 a u = H4 at *
      clear hDD r nD
      refine ⟨.ref D, es.map fun e => e.1.shown, rfl, ⟨D, rfl, .inl (.inl (.inl hD1))⟩, by rw [List.length_map]; omega, fun ys1 p1 pm1 so1 np1 => ?_⟩
      have sp1 := same_upd (o := .lst (ys1.map V.str)) np1
      have hp1 := upd_same (H := H4) (a := p1) (o := .lst (ys1.map V.str))
      have s2 := s1.trans sp1
      generalize upd H4 p1 (.lst (ys1.map V.str)) = H5 at *
      refine ⟨_, rfl, tS sg, rfl, fun D2 nD2 => ?_⟩
      have hl3 := hl.few
      refine lc_gen walk_tx (Same H5) (fun i acc => acc = ((sg.take i).map fun c => (PyData.str (tS [c])).shown).map V.str) (sz (by omega)) (fun i acc e => by rw [e]; simp; omega) rfl (same_upd nD2) (fun _ _ h => same_up h nD2) (fun _ _ => trivial) (fun i x H6 H7 acc C N hi r hDD ha y c n => ?_) (fun H6 xs r hDD ha => ?_)
      · obtain ⟨rfl, ch, hch, rfl⟩ := y
        have hc := hl.az ch (List.mem_of_getElem? hch)
        obtain ⟨f1, f2, f3, _⟩ := key_facts (d := .str (tS [ch])) (.inl ⟨[ch], rfl, (fun z hz => by rw [List.mem_singleton.mp hz]; exact hc), by simp⟩)
        refine ⟨rfl, yes_te ?_⟩
        exact ⟨_, rfl, tx [ch], .str (tS [ch]), rfl, .data (.str _), f1, f2, f3, c _ _ r hDD (by rw [ha, List.take_add_one, hch]; simp)⟩
      subst ha
      rw [List.take_length] at hDD
      refine ⟨.ref D2, sg.map fun c => (PyData.str (tS [c])).shown, rfl, ⟨D2, rfl, .inl (.inl (.inl hDD))⟩, by rw [List.length_map]; omega, fun ys2 p2 pm2 so2 np2 => ?_⟩
      have sp2 := same_upd (o := .lst (ys2.map V.str)) np2
      have hp2 := upd_same (H := H6) (a := p2) (o := .lst (ys2.map V.str))
      have hp1 := sp2 _ _ (r _ _ hp1)
      have s3 := s2.trans (r.trans sp2)
      have hu3 : upd H6 p2 (.lst (ys2.map V.str)) a = some u := sp2 _ _ (r _ _ (sp1 _ _ hu1))
      generalize upd H6 p2 (.lst (ys2.map V.str)) = H8 at *
      have ok1 : ∀ y ∈ ys1, PyData.strOk y = true := fun y hy => by
        obtain ⟨e, he, rfl⟩ := List.mem_map.mp (pm1.mem_iff.mp hy)
        exact (key_facts (hk' e he)).2.2.2
      have ok2 : ∀ y ∈ ys2, PyData.strOk y = true := fun y hy => by
        obtain ⟨c, hc, rfl⟩ := List.mem_map.mp (pm2.mem_iff.mp hy)
        exact (key_facts (d := .str (tS [c])) (.inl ⟨[c], rfl, (fun z hz => by rw [List.mem_singleton.mp hz]; exact hl.az c hc), by simp⟩)).2.2.2
      refine ⟨.list (ys1.map .str), .list (ys2.map .str), .lst (.inl (.inl hp1)) (dpAll_strs _), .lst (.inl (.inl hp2)) (dpAll_strs _), shaped_strs ok1, shaped_strs ok2, _, rfl, ?_⟩
      rw [eqv_strs]
      clear hDD hD1 nD2 np1 np2 r sp1 sp2 s1 s2 hp1 hp2
      by_cases hy : ys1 = ys2
      · have pm : ((kd.map (·.1)).map (·.shown)).Perm (sg.map fun c => (PyData.str (tS [c])).shown) := by
          rw [ek, List.map_map]
          exact pm1.symm.trans (hy ▸ pm2)
        have q := due1 pm ▸ q
        refine ite_f (by simp [hy]) ?_
        have hD8 := dpDs_ext (LamX.ExtN.of s3) hD
        have hsh : kd.length ≤ 100 ∧ ∀ p ∈ kd, shortH p.2 := hg.short
        have lkd : kd.length = es.length := by rw [ekd, List.length_zip, List.length_map]; omega
        refine next_to ⟨a, u, hu3, mut_mx mu, fun od2 => ⟨_, rfl, a, od2, u, es, rfl, upd_same, mu, ?_⟩⟩
        refine for_it walk_mv (fun i σ H' => ∃ t4, σ = [some (tx sg), some (.ref a), none, none, t4, none] ∧ Same (upd H8 a (.frz od2 u)) H' ∧ ((kd.take i).all fun p => hearsD sg p.2) = true)
          ⟨none, rfl, Same.refl _, rfl⟩ (fun _ _ _ _ p => by obtain ⟨_, _, p, _⟩ := p; exact p _ _ upd_same) (fun i x σ H9 H10 hi p y => ?_) (fun σ H9 p => ?_)
        · obtain ⟨t4, rfl, s9, hall⟩ := p
          obtain ⟨rfl, e, he, rfl⟩ := y
          obtain ⟨di, hdi, hv⟩ := dpds_get hD8 (by rw [List.getElem?_map, he]; rfl : (es.map (·.2.2))[i]? = some e.2.2)
          have hkdi : kd[i]? = some (e.1, di) := by
            rw [ekd, List.zip_eq_zipWith, List.getElem?_zipWith, List.getElem?_map, he, hdi]
            rfl
          have hsi : shortH di := hsh.2 _ (List.mem_of_getElem? hkdi)
          have no : hearsD sg di = false → ∀ H', Same H8 H' → Q (.bl false) H' := fun z H' s' => by
            have e0 : (kd.all fun p => hearsD sg p.2) = false := by
              rw [← Bool.not_eq_true, List.all_eq_true]
              intro h
              have := h _ (List.mem_of_getElem? hkdi)
              rw [show hearsD sg (e.1, di).2 = hearsD sg di from rfl, z] at this
              cases this
            rw [e0] at q
            exact q _ (s3.trans s')
          have yes : hearsD sg di = true → ((kd.take (i + 1)).all fun p => hearsD sg p.2) = true := fun z => by
            rw [List.take_add_one, hkdi, List.all_append, hall]
            simp [z]
          generalize e.2.2 = v at *
          dsimp only [gName]
          have c1 := @kb_list di
          have c2 := @kb_tuple di
          have ty := ty_lock s9 hu3 mu hv
          by_cases hil : isListD di = true
          · -- a list or a tuple
            refine if_no (fun H1 => H1 = H10) (fun Q' hQ' => ?_) (fun H11 e11 => ?_)
            · cases hls : isLsD di
              · have htp : isTpD di = true := by
                  have e : isListD di = (isLsD di || isTpD di) := by cases di <;> rfl
                  rw [e, hls] at hil
                  exact hil
                rw [hls] at c1
                rw [htp] at c2
                exact ⟨_, rfl, v, .ty "list", .type (tyD di), .type "list", false, rfl, .ty _, ty, kit_ty c1, false, rfl, iteT ⟨_, rfl, v, .ty "tuple", .type (tyD di), .type "tuple", true, rfl, .ty _, ty, kit_ty c2, true, rfl, hQ' _ rfl⟩⟩
              · rw [hls] at c1
                exact ⟨_, rfl, v, .ty "list", .type (tyD di), .type "list", true, rfl, .ty _, ty, kit_ty c1, true, rfl, iteF (hQ' _ rfl)⟩
            subst e11
            obtain ⟨b, xs, rfl, hS, hE⟩ := dpd_els hv hil
            have hS : SqL K H11 b xs ∨ SqT K H11 b xs := hS.imp (sqL_lock s9 hu3 mu) (sqT_lock s9 hu3 mu)
            obtain ⟨hz1, hz2⟩ := hsi hil
            have hlx := hE.len
            dsimp only [tNext]
            by_cases hne : elsD di = []
            · have e : hearsD sg di = false := by unfold hearsD; rw [hne]; simp
              have e0 : xs.length = 0 := by rw [hlx, hne]; rfl
              exact ⟨_, rfl, b, xs, rfl, hS, rfl, _, rfl, ite_t (decide_eq_true (congrArg (fun n : Nat => V.int (n : Int)) e0)) ⟨s9 _ _ upd_same, no e _ (unlock_same s9 hu3)⟩⟩
            have e0 : xs.length ≠ 0 := by rw [hlx]; exact fun z => hne (List.length_eq_zero_iff.mp z)
            refine ⟨_, rfl, b, xs, rfl, hS, rfl, _, rfl, ite_f (decide_eq_false fun z => e0 (by injection z with z; omega)) ?_⟩
            dsimp only [tNext]
            refine ⟨_, rfl, xs, H11, ⟨b, rfl, hS⟩, Same.refl _, fun J G wlk hGG D9 nD9 => ?_⟩
            refine lc_gen wlk (Same H11) (fun i acc => acc = (((elsD di).take i).map (hearD sg)).map V.bl) (sz (by omega)) (fun i acc e => by rw [e]; simp; omega) rfl (same_upd nD9) (fun _ _ h => same_up h nD9) (fun _ h => hGG _ h) (fun j x H2 H3 acc C N hj r hDD ha y c n => ?_) (fun H2 xs' r hDD ha => ?_)
            · obtain ⟨rfl, hy⟩ := y
              obtain ⟨e', he', hxd⟩ := dpds_get hE hy
              have fin : acc ++ [V.bl (hearD sg e')] = (((elsD di).take (j + 1)).map (hearD sg)).map V.bl := by
                rw [ha, List.take_add_one, he']
                simp
              refine ⟨rfl, yes_te ?_⟩
              exact ⟨_, rfl, _, rfl, sg, x, e', rfl, wk_lock (s9.trans r) hu3 mu hxd, hz2 e' (List.mem_of_getElem? he'), fun H4 s4 => c _ _ (r.trans s4) (s4 _ _ hDD) fin⟩
            subst ha
            rw [hlx, List.take_length] at hDD
            refine ⟨D9, (elsD di).map (hearD sg), rfl, .inl (.inl hDD), ?_⟩
            have e3 : ((elsD di).map (hearD sg)).all id = (elsD di).all (hearD sg) := by rw [List.all_map]; rfl
            rw [e3]
            have s11 := s9.trans r
            cases hall2 : (elsD di).all (hearD sg)
            · have e : hearsD sg di = false := by unfold hearsD; rw [hall2]; simp
              exact ⟨_, rfl, iteT (iteT ⟨s11 _ _ upd_same, no e _ (unlock_same s11 hu3)⟩)⟩
            have hx := dpds_texts hE hall2
            subst hx
            have hS2 : Sq K H2 (.ref b) (((elsD di).map txD).map tx) := Sq.same ⟨b, rfl, hS⟩ r
            refine ⟨_, rfl, iteF ?_⟩
            refine ⟨_, rfl, _, (elsD di).map txD, rfl, hS2, by rw [List.length_map]; omega, fun p np => ?_⟩
            have sp := same_upd (o := TSet w p (txs ((elsD di).map txD))) np
            have s12 := s11.trans sp
            refine ⟨p, _, rfl, upd_same, _, rfl, ?_⟩
            obtain ⟨b', e', hSS'⟩ := hS2.same sp
            cases e'
            refine ⟨b, _, rfl, hSS', _, _, rfl, rfl, _, rfl, ?_⟩
            have e4 := txs_len_iff (ls := (elsD di).map txD)
            have e5 : (txs ((elsD di).map txD)).length ≤ ((elsD di).map txD).length := sub_lenN (ded_nodup _ _) fun x hx => txs_mem.mp hx
            by_cases hnd2 : ((elsD di).map txD).Nodup
            · have e : hearsD sg di = true := by unfold hearsD; rw [hil, hall2, decide_eq_true hne, decide_eq_true hnd2]; rfl
              have e6 := e4.mpr hnd2
              refine ite_f (decide_eq_false (by rw [List.length_map (f := tx)]; omega)) ?_
              exact ⟨some (.ref b), rfl, s12, yes e⟩
            · have e : hearsD sg di = false := by unfold hearsD; rw [decide_eq_false hnd2]; simp
              have e6 : (txs ((elsD di).map txD)).length ≠ ((elsD di).map txD).length := fun z => hnd2 (e4.mp z)
              refine ite_t (decide_eq_true (by rw [List.length_map (f := tx)]; omega)) ?_
              exact ⟨s12 _ _ upd_same, no e _ (unlock_same s12 hu3)⟩
          · have hil : isListD di = false := Bool.eq_false_iff.mpr hil
            have hls : isLsD di = false := by cases di <;> first | rfl | exact absurd hil (by simp [isListD])
            have htp : isTpD di = false := by cases di <;> first | rfl | exact absurd hil (by simp [isListD])
            rw [hls] at c1
            rw [htp] at c2
            have e : hearsD sg di = false := by unfold hearsD; rw [hil]; rfl
            exact ⟨_, rfl, v, .ty "list", .type (tyD di), .type "list", false, rfl, .ty _, ty, kit_ty c1, false, rfl, iteT ⟨_, rfl, v, .ty "tuple", .type (tyD di), .type "tuple", false, rfl, .ty _, ty, kit_ty c2, false, rfl, iteT ⟨s9 _ _ upd_same, no e _ (unlock_same s9 hu3)⟩⟩⟩
        · obtain ⟨t4, rfl, s9, hall⟩ := p
          rw [lkd.symm, List.take_length] at hall
          refine ⟨s9 _ _ upd_same, ?_⟩
          have := q _ (s3.trans (unlock_same s9 hu3))
          rw [hall] at this
          exact this
      · have pm : ¬ ((kd.map (·.1)).map (·.shown)).Perm (sg.map fun c => (PyData.str (tS [c])).shown) := by
          rw [ek, List.map_map]
          intro z
          exact hy (sorted_eq (pm1.trans (z.trans pm2.symm)) so1 so2)
        rw [due2 pm] at q
        exact ite_t (by simp [hy]) (q _ s3)
    · have e0 : isDictD d = false := by cases d <;> first | rfl | exact absurd ⟨_, rfl⟩ hs
      have e1 : lineD sg d = false := by cases d <;> first | rfl | exact absurd ⟨_, rfl⟩ hs
      have c1 := @kb_dict d
      rw [e0] at c1
      rw [e1] at q
      exact ⟨_, rfl, v, .ty "dict", .type (tyD d), .type "dict", false, rfl, .ty _, hd.ty, kit_ty c1, false, rfl, iteT (q _ (Same.refl _))⟩
end
end Lw
namespace Lw
open PySem PySem.Spec PyProof.Rows L3
open L2 hiding del del_same del_ne
structure Vt (d : PyData) : Prop where
  l : d.leavesShort 10 = true
  s : d.showable = true
  w : d.weight ≤ 400
  p : d.depth ≤ 10
  h : shortH d
theorem Vt.of {d : PyData} {w k : Nat} (h : Wt d w k) (hw : w ≤ 400) (hk : k ≤ 10) (hs : shortH d) : Vt d := ⟨h.l, h.s, Nat.le_trans h.w hw, Nat.le_trans h.p hk, hs⟩
theorem key_wt {d : PyData} (h : keyOk d) : Wt d 40 1 := by
  rcases h with ⟨x, rfl, hx, hn⟩ | rfl | rfl | ⟨c, hc, rfl⟩
  · exact (Wt.text (fun c hc => by have := hx.lt c hc; omega) hn).mono (by omega) (by omega)
  · exact (Wt.int (by decide)).mono (by omega) (by omega)
  · exact Wt.non.mono (by omega) (by omega)
  · refine (Wt.tuple (w := 1) (k := 0) (n := 1) (ds := [.str (tS [c])]) (fun d hd => ?_) (by simp)).mono (by omega) (by omega)
    rw [List.mem_singleton.mp hd]
    exact Wt.text (fun z hz => by rw [List.mem_singleton.mp hz]; omega) (by simp)
theorem keyN_ok {a b : PyData} (ha : keyOk a) (hb : keyOk b) (e : keyN a = keyN b) : a = b := by
  rcases ha with ⟨x, rfl, _⟩ | rfl | rfl | ⟨c, _, rfl⟩ <;> rcases hb with ⟨y, rfl, _⟩ | rfl | rfl | ⟨c', _, rfl⟩ <;> simp only [keyN, keyNs, reduceCtorEq] at e ⊢
  · exact congrArg _ (NestedKey.text.inj e)
  · have := NestedKey.tup.inj e
    simp only [List.cons.injEq, NestedKey.text.injEq, and_true] at this
    rw [this]
theorem key_able {d : PyData} (h : keyOk d) : keyable d = true ∧ (keyN d).depth ≤ 8 := by
  rcases h with ⟨x, rfl, _⟩ | rfl | rfl | ⟨c, _, rfl⟩ <;> simp [keyable, keyables, keyN, keyNs, NestedKey.depth, NestedKey.depthAll]
theorem kv_facts : ∀ {kd : List (PyData × PyData)}, (∀ p ∈ kd, keyOk p.1) → (∀ p ∈ kd, Vt p.2) → PyData.leavesShortKv 10 kd = true ∧ PyData.showableKv kd = true ∧ PyData.weightKv kd ≤ 442 * kd.length ∧ PyData.depthKv kd ≤ 10
  | [], _, _ => ⟨rfl, rfl, Nat.le_refl _, Nat.zero_le _⟩
  | (k, v) :: kd, h1, h2 => by
    obtain ⟨a, b, c, d⟩ := kv_facts (kd := kd) (fun p hp => h1 p (List.mem_cons_of_mem _ hp)) fun p hp => h2 p (List.mem_cons_of_mem _ hp)
    have hk := key_wt (h1 _ List.mem_cons_self)
    have hv := h2 _ List.mem_cons_self
    have e1 := hk.l
    have e2 := hk.s
    have e3 := hk.w
    have e4 := hk.p
    have f1 := hv.l
    have f2 := hv.s
    have f3 := hv.w
    have f4 := hv.p
    dsimp only at e1 e2 e3 e4 f1 f2 f3 f4
    refine ⟨?_, ?_, ?_, ?_⟩
    · simp only [PyData.leavesShortKv, e1, f1, a, Bool.and_self]
    · simp only [PyData.showableKv, e2, f2, b, Bool.and_self]
    · simp only [PyData.weightKv, List.length_cons]
      omega
    · simp only [PyData.depthKv]
      omega
theorem good_dict {kd : List (PyData × PyData)} (hk : ∀ p ∈ kd, keyOk p.1) (nd : (kd.map (·.1)).Nodup) (hl : kd.length ≤ 6) (hv : ∀ p ∈ kd, Vt p.2) : GoodT (.dict kd) := by
  obtain ⟨a, b, c, d⟩ := kv_facts hk hv
  refine ⟨⟨by simpa only [PyData.leavesShort] using a, by simpa only [PyData.showable] using b, ?_, ?_⟩, ⟨by omega, fun p hp => (hv p hp).h⟩, fun kd' e => by cases e; exact ⟨hk, nd, by omega⟩⟩
  · simp only [PyData.weight]; omega
  · simp only [PyData.depth]; omega
structure GoodK (kd : List (PyData × PyData)) : Prop where
  k : ∀ p ∈ kd, keyOk p.1
  n : (kd.map (·.1)).Nodup
  l : kd.length ≤ 6
  v : ∀ p ∈ kd, Vt p.2
theorem GoodK.good {kd : List (PyData × PyData)} (h : GoodK kd) : GoodT (.dict kd) := good_dict h.k h.n h.l h.v
/-- an entry and what its value is -/
abbrev EntX := EntM × PyData
structure Ent (K : PySem.W.Frag) (H : Hp) (e : EntX) : Prop where
  k : Dp K H e.1.2.1 e.1.1
  o : keyOk e.1.1
  v : DpD K H e.1.2.2 e.2
  t : Vt e.2
theorem Ent.same {K : PySem.W.Frag} {H H' : Hp} {e : EntX} (h : Ent K H e) (s : Same H H') : Ent K H' e := ⟨Dp.same s h.k, h.o, dpd_same h.v s, h.t⟩
theorem dpds_map {K : PySem.W.Frag} {H : Hp} : ∀ {l : List EntX}, (∀ e ∈ l, DpD K H e.1.2.2 e.2) → DpDs K H ((l.map (·.1)).map (·.2.2)) (l.map (·.2))
  | [], _ => .nil
  | e :: l, h => .cons (h e List.mem_cons_self) (dpds_map fun x hx => h x (List.mem_cons_of_mem _ hx))
theorem paired_ent {K : PySem.W.Frag} {H : Hp} : ∀ {ts : List Addr} {en : List EntX}, Paired (fun (t : Addr) (e : EntX) => H t = some (.tup [e.1.2.1, e.1.2.2])) ts en → Paired (fun (t : Addr) (p : EntM) => SqT K H t [p.2.1, p.2.2]) ts (en.map (·.1))
  | _, _, .nil => .nil
  | _, _, .cons h t => .cons (.inl (.inl h)) (paired_ent t)
theorem other_ret {P : Program} {w : World} {K : PySem.W.Frag} {H0 H : Hp} {a l : Addr} {ts : List Addr} {en : List EntX} {Q : VK} (hl : H l = some (.lst (ts.map V.ref))) (hp : Paired (fun (t : Addr) (e : EntX) => H t = some (.tup [e.1.2.1, e.1.2.2])) ts en)
    (he : ∀ e ∈ en, Ent K (nw H0 H) e) (nd : (en.map fun e => e.1.1).Nodup) (hz : en.length ≤ 6) (hpa : Pot H a) (ho : Off a H0 H)
    (q : ∀ H' v kd, Pot H' a → Off a H H' → DpM P w K (nw H0 H') v (.dict kd) → GoodK kd → Q v H') : rDictM P w K [.ref l] H Q := by
  have kN : ∀ e ∈ en, ∀ e' ∈ en, keyN e.1.1 = keyN e'.1.1 → e.1.1 = e'.1.1 := fun e h e' h' z => keyN_ok (he e h).o (he e' h').o z
  have nd2 : ((en.map (·.1)).map fun p => keyN p.1).Nodup := by
    rw [List.map_map]
    have e : en.map ((fun p : EntM => keyN p.1) ∘ fun x => x.1) = (en.map fun e => e.1.1).map keyN := by rw [List.map_map]; rfl
    rw [e, List.Nodup, List.pairwise_map]
    refine List.Pairwise.imp_of_mem (fun {x y} hx hy n z => ?_) nd
    obtain ⟨e1, h1, rfl⟩ := List.mem_map.mp hx
    obtain ⟨e2, h2, rfl⟩ := List.mem_map.mp hy
    exact n (kN e1 h1 e2 h2 z)
  refine ⟨l, ts, en.map (·.1), rfl, .inl (.inl hl), paired_ent hp, fun x hx => ?_, nd2, fun p np => ?_⟩
  · obtain ⟨e, h, rfl⟩ := List.mem_map.mp hx
    exact ⟨Dp.same nw_le (he e h).k, key_able (he e h).o⟩
  · have sp := same_upd (o := TM P w p (en.map (·.1))) np
    have n0 := ho.free np hpa
    have s2 : Same (nw H0 H) (nw H0 (upd H p (TM P w p (en.map (·.1))))) := nw_mono sp
    have ez : ((en.map (·.1)).map (·.1)).zip (en.map (·.2)) = en.map fun e => (e.1.1, e.2) := by
      rw [List.map_map]
      exact List.zip_map'
    refine q _ _ (((en.map (·.1)).map (·.1)).zip (en.map (·.2))) (hpa.same sp) (Off.of sp) (.mx ⟨⟨_, by rw [nw_at n0, upd_same], .inl rfl⟩, fun x hx => ?_⟩ (dpds_map fun e h => dpd_same (he e h).v s2) rfl) ?_
    · obtain ⟨e, h, rfl⟩ := List.mem_map.mp hx
      exact ⟨Dp.same s2 (he e h).k, key_able (he e h).o⟩
    · rw [ez]
      refine ⟨fun x hx => ?_, ?_, (by rw [List.length_map]; exact hz), fun x hx => ?_⟩
      · obtain ⟨e, h, rfl⟩ := List.mem_map.mp hx
        exact (he e h).o
      · rw [List.map_map]; exact nd
      · obtain ⟨e, h, rfl⟩ := List.mem_map.mp hx
        exact (he e h).t
theorem eraseIdx_map {α β : Type} (f : α → β) : ∀ (l : List α) (k : Nat), (l.map f).eraseIdx k = (l.eraseIdx k).map f
  | [], _ => rfl
  | a :: l, 0 => rfl
  | a :: l, k + 1 => by
    show f a :: (l.map f).eraseIdx k = f a :: (l.eraseIdx k).map f
    rw [eraseIdx_map f l k]
theorem paired_erase {α β : Type} {F : α → β → Prop} : ∀ {xs : List α} {ys : List β}, Paired F xs ys → ∀ k, Paired F (xs.eraseIdx k) (ys.eraseIdx k)
  | _, _, .nil, _ => .nil
  | _, _, .cons h t, 0 => t
  | _, _, .cons h t, k + 1 => .cons h (paired_erase t k)
def bE (tp : Nat → Bool) (L : Nat → List (List Nat)) (f : Nat → V) (c : Nat) : EntX := ((.str (tS [c]), tx [c], f c), dH (tp c) (L c))
theorem str_nodup {l : List Nat} (h : l.Nodup) : (l.map fun c => PyData.str (tS [c])).Nodup := List.Pairwise.map _ (fun a b n e => n (by
  have := tS_inj (PyData.str.inj e)
  simpa using this)) h
theorem paired_bE {H : Hp} {tp : Nat → Bool} {L : Nat → List (List Nat)} {f : Nat → V} : ∀ {ts : List Addr} {od : List Nat}, Paired (fun (t : Addr) (c : Nat) => H t = some (.tup [tx [c], f c])) ts od → Paired (fun (t : Addr) (e : EntX) => H t = some (.tup [e.1.2.1, e.1.2.2])) ts (od.map (bE tp L f))
  | _, _, .nil => .nil
  | _, _, .cons h t => .cons h (paired_bE t)
theorem vt_hs {b : Bool} {l : List (List Nat)} (h : ∀ t ∈ l, (∀ c ∈ t, c < 1114112) ∧ t.length ≤ 8) (hn : l.length ≤ 8) : Vt (dH b l) := by
  have hw : ∀ d ∈ dHs l, Wt d 8 0 := fun d hd => by
    obtain ⟨t, ht, rfl⟩ := List.mem_map.mp hd
    exact Wt.text (h t ht).1 (h t ht).2
  have hlen : (dHs l).length ≤ 8 := by unfold dHs; rw [List.length_map]; exact hn
  have hs : ∀ d ∈ dHs l, shortD d := fun d hd => by
    obtain ⟨t, ht, rfl⟩ := List.mem_map.mp hd
    show t.length ≤ 1000
    have := (h t ht).2
    omega
  cases b with
  | true => exact Vt.of (Wt.tuple hw hlen) (by decide) (by decide) fun _ => ⟨by show (dHs l).length ≤ 100; omega, hs⟩
  | false => exact Vt.of (Wt.list hw hlen) (by decide) (by decide) fun _ => ⟨by show (dHs l).length ≤ 100; omega, hs⟩
theorem ent_base {K : PySem.W.Frag} {H : Hp} {sg : List Nat} {tp : Nat → Bool} {L : Nat → List (List Nat)} {f : Nat → V} {c : Nat} (hl : Lets sg) (h : HL sg L) (hc : c ∈ sg) (hf : Dp K H (f c) (dH (tp c) (L c))) : Ent K H (bE tp L f c) := by
  have hz := hl.az c hc
  refine ⟨.str _, .inl ⟨[c], rfl, (fun z hz' => by rw [List.mem_singleton.mp hz']; exact hz), by simp⟩, .data hf, vt_hs (fun t ht => ?_) (by have := h.few c hc; omega)⟩
  rcases h.ok c hc t ht with rfl | ⟨b, hb, rfl⟩
  · exact ⟨(fun z hz => nomatch hz), by simp⟩
  · have := hl.az b hb
    exact ⟨fun z hz => by rw [List.mem_singleton.mp hz]; omega, by simp⟩
theorem paired_app {α β : Type} {F : α → β → Prop} : ∀ {xs xs' : List α} {ys ys' : List β}, Paired F xs ys → Paired F xs' ys' → Paired F (xs ++ xs') (ys ++ ys')
  | _, _, _, _, .nil, h => h
  | _, _, _, _, .cons a t, h => .cons a (paired_app t h)
theorem key_pick {K : PySem.W.Frag} {H : Hp} {ch e : Nat} {v : V} (hc : 97 ≤ ch ∧ ch ≤ 122) (he : 97 ≤ e ∧ e ≤ 122) (ht : ∀ t, v = .ref t → H t = some (.tup [tx [ch]])) (hv : v = V.str "q" ∨ v = V.str "" ∨ v = tx ([ch] ++ [e]) ∨ v = .int 0 ∨ v = .non ∨ ∃ t, v = .ref t) :
    ∃ kk, Dp K H v kk ∧ keyOk kk ∧ ∀ c : Nat, c ≠ 113 → kk ≠ .str (tS [c]) := by
  have no : ∀ {l : List Nat} {c : Nat}, l ≠ [c] → PyData.str (tS l) ≠ .str (tS [c]) := fun n e => n (tS_inj (PyData.str.inj e))
  rcases hv with rfl | rfl | rfl | rfl | rfl | ⟨t, rfl⟩
  · exact ⟨.str (tS [113]), .str _, .inl ⟨[113], rfl, (fun z hz => by rw [List.mem_singleton.mp hz]; decide), by simp⟩, fun c hc => no fun z => hc (List.cons.inj z).1.symm⟩
  · exact ⟨.str (tS []), .str _, .inl ⟨[], rfl, (fun z hz => nomatch hz), by simp⟩, fun c _ => no (by simp)⟩
  · refine ⟨.str (tS ([ch] ++ [e])), .str _, .inl ⟨_, rfl, (fun z hz => ?_), by simp⟩, fun c _ => no (by simp)⟩
    rcases List.mem_append.mp hz with hz | hz
    · rw [List.mem_singleton.mp hz]; exact hc
    · rw [List.mem_singleton.mp hz]; exact he
  · exact ⟨.int 0, .int 0, .inr (.inl rfl), fun c _ z => by cases z⟩
  · exact ⟨.none, .non, .inr (.inr (.inl rfl)), fun c _ z => by cases z⟩
  · exact ⟨.tuple [.str (tS [ch])], .tup (.inl (.inl (ht t rfl))) (.cons (.str _) .nil), .inr (.inr (.inr ⟨ch, hc, rfl⟩)), fun c _ z => by cases z⟩
theorem dpAll_snoc {K : PySem.W.Frag} {H : Hp} {v : V} {d : PyData} (h : Dp K H v d) : ∀ {xs : List V} {ds : List PyData}, DpAll K H xs ds → DpAll K H (xs ++ [v]) (ds ++ [d])
  | _, _, .nil => .cons h .nil
  | _, _, .cons a t => .cons a (dpAll_snoc h t)
/-- a hearing, right or odd -/
structure Odd1 (K : PySem.W.Frag) (H : Hp) (v : V) (d : PyData) : Prop where
  v : Dp K H v d
  w : Wt d 30 2
  s : shortD d
theorem Odd1.same {K : PySem.W.Frag} {H H' : Hp} {v : V} {d : PyData} (h : Odd1 K H v d) (s : Same H H') : Odd1 K H' v d := ⟨Dp.same s h.v, h.w, h.s⟩
theorem odd_tx {K : PySem.W.Frag} {H : Hp} {l : List Nat} (h : ∀ c ∈ l, c < 123) (hn : l.length ≤ 8) : Odd1 K H (tx l) (.str (tS l)) :=
  ⟨.str _, (Wt.text (fun c hc => by have := h c hc; omega) hn).mono (by omega) (by omega), by show l.length ≤ 1000; omega⟩
theorem odd_pick {K : PySem.W.Frag} {H : Hp} {sg : List Nat} {ch : Nat} {t : Addr} {v : V} (hl : Lets sg) (hc : ch ∈ sg) (ht : H t = some (.lst [tx [ch]])) (hv : v ∈ (sg.map fun c => tx [c]) ++ [V.str "", V.str "", V.str "q", V.str "A", V.str "*", tx (sg ++ [122]), .non, .int 0, .bl true, .ref t, .int 97]) :
    ∃ d, Odd1 K H v d := by
  have lo : ∀ c ∈ sg, c < 123 := fun c hc => by have := (hl.az c hc).2; omega
  rcases List.mem_append.mp hv with hv | hv
  · obtain ⟨c, hc, rfl⟩ := List.mem_map.mp hv
    exact ⟨_, odd_tx (fun z hz => by rw [List.mem_singleton.mp hz]; exact lo c hc) (by simp)⟩
  · simp only [List.mem_cons, List.not_mem_nil, or_false] at hv
    rcases hv with rfl | rfl | rfl | rfl | rfl | rfl | rfl | rfl | rfl | rfl | rfl
    · exact ⟨_, odd_tx (l := []) (fun z hz => nomatch hz) (by simp)⟩
    · exact ⟨_, odd_tx (l := []) (fun z hz => nomatch hz) (by simp)⟩
    · exact ⟨_, odd_tx (l := [113]) (fun z hz => by rw [List.mem_singleton.mp hz]; decide) (by simp)⟩
    · exact ⟨_, odd_tx (l := [65]) (fun z hz => by rw [List.mem_singleton.mp hz]; decide) (by simp)⟩
    · exact ⟨_, odd_tx (l := [42]) (fun z hz => by rw [List.mem_singleton.mp hz]; decide) (by simp)⟩
    · refine ⟨_, odd_tx (fun z hz => ?_) (by have := hl.few; simp; omega)⟩
      rcases List.mem_append.mp hz with hz | hz
      · exact lo z hz
      · rw [List.mem_singleton.mp hz]; decide
    · exact ⟨.none, .non, Wt.non.mono (by omega) (by omega), trivial⟩
    · exact ⟨.int 0, .int 0, (Wt.int (by decide)).mono (by omega) (by omega), trivial⟩
    · exact ⟨.bool true, .bl true, (Wt.bool true).mono (by omega) (by omega), trivial⟩
    · refine ⟨.list [.str (tS [ch])], .lst (.inl (.inl ht)) (.cons (.str _) .nil), ?_, trivial⟩
      exact (Wt.list (w := 1) (k := 0) (n := 1) (fun d hd => by rw [List.mem_singleton.mp hd]; exact Wt.text (fun z hz => by rw [List.mem_singleton.mp hz]; have := lo ch hc; omega) (by simp)) (by simp)).mono (by omega) (by omega)
    · exact ⟨.int 97, .int 97, (Wt.int (by decide)).mono (by omega) (by omega), trivial⟩
theorem odd_vt {K : PySem.W.Frag} {H : Hp} {v : V} {d : PyData} (h : Odd1 K H v d) (n : isListD d = false) : Vt d := Vt.of h.w (by decide) (by decide) fun z => by rw [n] at z; cases z
theorem lst_vt {K : PySem.W.Frag} {H : Hp} {v : V} {d : PyData} (h : Odd1 K H v d) {l : List (List Nat)} (hl : ∀ t ∈ l, (∀ c ∈ t, c < 1114112) ∧ t.length ≤ 8) (hn : l.length ≤ 4) : Vt (.list (dHs l ++ [d])) ∧ Vt (.tuple (dHs l ++ [d])) := by
  have hw : ∀ x ∈ dHs l ++ [d], Wt x 30 2 := fun x hx => by
    rcases List.mem_append.mp hx with hx | hx
    · obtain ⟨t, ht, rfl⟩ := List.mem_map.mp hx
      exact (Wt.text (hl t ht).1 (hl t ht).2).mono (by omega) (by omega)
    · rw [List.mem_singleton.mp hx]; exact h.w
  have hlen : (dHs l ++ [d]).length ≤ 5 := by unfold dHs; simp; omega
  have hs : ∀ x ∈ dHs l ++ [d], shortD x := fun x hx => by
    rcases List.mem_append.mp hx with hx | hx
    · obtain ⟨t, ht, rfl⟩ := List.mem_map.mp hx
      show t.length ≤ 1000
      have := (hl t ht).2
      omega
    · rw [List.mem_singleton.mp hx]; exact h.s
  exact ⟨Vt.of (Wt.list hw hlen) (by decide) (by decide) fun _ => ⟨by show (dHs l ++ [d]).length ≤ 100; omega, hs⟩, Vt.of (Wt.tuple hw hlen) (by decide) (by decide) fun _ => ⟨by show (dHs l ++ [d]).length ≤ 100; omega, hs⟩⟩
theorem vt_one {ch : Nat} (hc : ch < 123) : Vt (.dict [(.str (tS [ch]), .int 1)]) := by
  have h1 : Wt (.str (tS [ch])) 1 0 := Wt.text (fun z hz => by rw [List.mem_singleton.mp hz]; omega) (by simp)
  have h2 : Wt (.int 1) 30 0 := Wt.int (by decide)
  have a1 := h1.l
  have a2 := h2.l
  have b1 := h1.s
  have b2 := h2.s
  have c1 := h1.w
  have c2 := h2.w
  have d1 := h1.p
  have d2 := h2.p
  refine ⟨?_, ?_, ?_, ?_, fun h => by cases h⟩
  · show (PyData.leavesShort 10 (.str (tS [ch])) && PyData.leavesShort 10 (.int 1) && true) = true
    rw [a1, a2]
    rfl
  · simp only [PyData.showable, PyData.showableKv] at b1 b2 ⊢
    simpa using b2
  · simp only [PyData.weight, PyData.weightKv] at c1 c2 ⊢
    omega
  · simp [PyData.depth, PyData.depthKv]
theorem vpick {K : PySem.W.Frag} {H : Hp} {sg : List Nat} {ch : Nat} {e1 e2 e3 e4 e5 e6 e7 : Addr} {one v : V} {dd : PyData} (hl : Lets sg) (hc : ch ∈ sg) (ho : Odd1 K H one dd) (h1 : H e1 = some (.lst [])) (h2 : H e2 = some (.tup [])) (h3 : H e3 = some (.lst [one])) (h4 : H e4 = some (.tup [one])) (h5 : H e5 = some (.dK [(kT ch, .int 1)]))
    (h6 : H e6 = some (.lst [tx [ch]])) (h7 : H e7 = some (.lst [.ref e6])) (hv : v ∈ [V.ref e1, .ref e2, tx sg, V.str "", .non, .ref e3, .ref e4, .ref e5, .ref e7]) : ∃ x, DpD K H v x ∧ Vt x := by
  have lo : ∀ c ∈ sg, c < 123 := fun c hc => by have := (hl.az c hc).2; omega
  simp only [List.mem_cons, List.not_mem_nil, or_false] at hv
  rcases hv with rfl | rfl | rfl | rfl | rfl | rfl | rfl | rfl | rfl
  · exact ⟨.list [], .data (.lst (.inl (.inl h1)) .nil), vt_hs (b := false) (l := []) (fun t ht => nomatch ht) (by simp)⟩
  · exact ⟨.tuple [], .data (.tup (.inl (.inl h2)) .nil), vt_hs (b := true) (l := []) (fun t ht => nomatch ht) (by simp)⟩
  · exact ⟨_, .data (odd_tx lo (by have := hl.few; omega) : Odd1 K H _ _).v, odd_vt (odd_tx lo (by have := hl.few; omega) : Odd1 K H _ _) rfl⟩
  · exact ⟨.str (tS []), .data (.str _), odd_vt (odd_tx (K := K) (H := H) (l := []) (fun z hz => nomatch hz) (by simp)) rfl⟩
  · exact ⟨.none, .data .non, odd_vt (K := K) (H := H) ⟨.non, Wt.non.mono (by omega) (by omega), trivial⟩ rfl⟩
  · exact ⟨_, .data (.lst (.inl (.inl h3)) (.cons ho.v .nil)), (lst_vt ho (l := []) (fun t ht => nomatch ht) (by simp)).1⟩
  · exact ⟨_, .data (.tup (.inl (.inl h4)) (.cons ho.v .nil)), (lst_vt ho (l := []) (fun t ht => nomatch ht) (by simp)).2⟩
  · exact ⟨_, .dct h5 (.cons (.data (.int 1)) .nil) rfl, vt_one (lo ch hc)⟩
  · refine ⟨.list [.list [.str (tS [ch])]], .data (.lst (.inl (.inl h7)) (.cons (.lst (.inl (.inl h6)) (.cons (.str _) .nil)) .nil)), ?_⟩
    have w1 : Wt (.str (tS [ch])) 1 0 := Wt.text (fun z hz => by rw [List.mem_singleton.mp hz]; have := lo ch hc; omega) (by simp)
    have w2 : Wt (.list [.str (tS [ch])]) 2 1 := Wt.list (w := 1) (k := 0) (n := 1) (fun d hd => by rw [List.mem_singleton.mp hd]; exact w1) (by simp)
    have w3 : Wt (.list [.list [.str (tS [ch])]]) 3 2 := Wt.list (w := 2) (k := 1) (n := 1) (fun d hd => by rw [List.mem_singleton.mp hd]; exact w2) (by simp)
    exact Vt.of w3 (by decide) (by decide) fun _ => ⟨by show 1 ≤ 100; decide, fun e he => by rw [List.mem_singleton.mp he]; trivial⟩
section
variable {P : Program} {w : World} {K : PySem.W.Frag} {mg : Str → Option Value} {base : Heap}
def spOther (P : Program) (w : World) (K : PySem.W.Frag) : Sp := fun vs H Q _ => ∃ (a d : Addr) (sg od : List Nat) (tp : Nat → Bool) (L : Nat → List (List Nat)) (H0 : Hp), vs = [.ref a, tx sg, .ref d] ∧ Pot H a ∧ Pot H0 a ∧ Off a H0 H ∧ LineAt K (nw H0 H) d sg od tp L ∧ HL sg L ∧ Lets sg ∧ 113 ∉ sg ∧
  ∀ H' v kd, Pot H' a → Off a H H' → DpM P w K (nw H0 H') v (.dict kd) → GoodK kd → Q v H'
theorem ok_law_other (T : All K mg) : FnOk P w K mg base CX0 3 T.f_law_other T.d_law_other ["_law_pot_here", "_law_signs", "_law_line_here"] (spOther P w K) := by
  refine T.law_other.F.ok sc_law_other (fun vs H Q E h => ?_) (fun cdv A outer s H vs Q E hr h => ?_)
  · obtain ⟨a, d, sg, od, tp, L, H0, rfl, _⟩ := h
    rfl
  · obtain ⟨a, d, sg, od, tp, L, H0, rfl, hp, hp0, ho0, hL, hHL, hl, hq, q⟩ := h
    refine ⟨_, pss_cons (ps_par rfl sc_law_other.nd (i := 3) (j := 4) rfl rfl (by decide) rfl rfl (pa_cons (pe_listItemsMK (P := P) (w := w) (K := K) rfl rfl rfl rfl (pv 2) (by rfl) T.b_list (by decide +kernel)) (pa_cons (pe_call (ok_law_draw T) (hr.mono (by decide)) (by rfl) T.law_draw.g T.law_draw.F.kp T.law_draw.b .nil pass0 (pa_cons (pv 0) (pa_cons pe_int pa_nil))) pa_nil)) (by rfl))
      (pss_cons (ps_asg (pe_bm PySem.F.plainAttrs_list PySem.F.slot_list_pop PySem.F.type_list_pop mt_popAt (pv 3) (pa_cons (pe_call (ok_law_draw T) (hr.mono (by decide)) (by rfl) T.law_draw.g T.law_draw.F.kp T.law_draw.b .nil pass0 (pa_cons (pv 0) (pa_cons (pe_callB call_len_seq (by rfl) T.b_len PySem.boot_len (pa_cons (pv 3) pa_nil)) pa_nil))) pa_nil)) (pg_tup rfl (pgs_cons (pg_name (i := 5) sc_law_other.nd rfl (by first | exact Or.inl rfl | exact Or.inr rfl)) (pgs_cons (pg_name (i := 6) sc_law_other.nd rfl (by first | exact Or.inl rfl | exact Or.inr rfl)) pgs_nil))))
      (pss_cons (ps_if (pt_cmpR op_eq (pv 4) pe_int (nomark _)) (pss_one (ps_ret (pe_callTy (cr_dictMK (P := P) (w := w) (K := K) rfl rfl rfl rfl (u64 hr)) (by rfl) T.b_dict (show bootBuiltins "dict" = some (.type "dict") by decide +kernel) (pa_cons (pv 3) pa_nil)))) pss_nil)
      (pss_cons (ps_if (pt_cmpR op_eq (pv 4) pe_int (nomark _)) (pss_one (ps_ret (pe_callTy (cr_dictMK (P := P) (w := w) (K := K) rfl rfl rfl rfl (u64 hr)) (by rfl) T.b_dict (show bootBuiltins "dict" = some (.type "dict") by decide +kernel) (pa_cons (pe_op op_cat (pv 3) (pe_lst (pa_cons (pe_tup (pa_cons (pe_call (ok_law_pick T) (hr.mono (by decide)) (by rfl) T.law_pick.g T.law_pick.F.kp T.law_pick.b .nil pass0 (pa_cons (pv 0) (pa_cons (pe_lst (pa_cons pe_str (pa_cons pe_str (pa_cons (pe_op op_addT (pv 5) pe_str) (pa_cons pe_int (pa_cons pe_non (pa_cons (pe_tup (pa_cons (pv 5) pa_nil)) pa_nil))))))) pa_nil))) (pa_cons (pv 6) pa_nil))) pa_nil))) pa_nil)))) pss_nil)
      (pss_cons (ps_if (pt_cmpR op_eq (pv 4) pe_int (nomark _)) (pss_one (ps_ret (pe_callTy (cr_dictMK (P := P) (w := w) (K := K) rfl rfl rfl rfl (u64 hr)) (by rfl) T.b_dict (show bootBuiltins "dict" = some (.type "dict") by decide +kernel) (pa_cons (pe_op op_cat (pv 3) (pe_lst (pa_cons (pe_tup (pa_cons (pv 5) (pa_cons (pv 6) pa_nil))) (pa_cons (pe_tup (pa_cons (pe_call (ok_law_pick T) (hr.mono (by decide)) (by rfl) T.law_pick.g T.law_pick.F.kp T.law_pick.b .nil pass0 (pa_cons (pv 0) (pa_cons (pe_lst (pa_cons pe_str (pa_cons pe_str (pa_cons (pe_op op_addT (pv 5) (pv 5)) (pa_cons pe_int (pa_cons pe_non pa_nil)))))) pa_nil))) (pa_cons (pe_lst (pa_cons (pv 5) pa_nil)) pa_nil))) pa_nil)))) pa_nil)))) pss_nil)
      (pss_cons (ps_set (i := 7) sc_law_other.nd rfl (by first | exact Or.inl rfl | exact Or.inr rfl) (pe_call (ok_law_pick T) (hr.mono (by decide)) (by rfl) T.law_pick.g T.law_pick.F.kp T.law_pick.b .nil pass0 (pa_cons (pv 0) (pa_cons (pe_op op_cat (pe_callTy (call_listT rfl) (by rfl) T.b_list PyProof.Rows.boot_list (pa_cons (pv 1) pa_nil)) (pe_lst (pa_cons pe_str (pa_cons pe_str (pa_cons pe_str (pa_cons pe_str (pa_cons pe_str (pa_cons (pe_op op_addT (pv 1) pe_str) (pa_cons pe_non (pa_cons pe_int (pa_cons pe_bl (pa_cons (pe_lst (pa_cons (pv 5) pa_nil)) (pa_cons pe_int pa_nil))))))))))))) pa_nil))))
      (pss_cons (ps_if (pt_cmpR op_eq (pv 4) pe_int (nomark _)) (pss_one (ps_ret (pe_callTy (cr_dictMK (P := P) (w := w) (K := K) rfl rfl rfl rfl (u64 hr)) (by rfl) T.b_dict (show bootBuiltins "dict" = some (.type "dict") by decide +kernel) (pa_cons (pe_op op_cat (pv 3) (pe_lst (pa_cons (pe_tup (pa_cons (pv 5) (pa_cons (pe_op op_cat (pe_callTy call_list_of (by rfl) T.b_list PyProof.Rows.boot_list (pa_cons (pv 6) pa_nil)) (pe_lst (pa_cons (pv 7) pa_nil))) pa_nil))) pa_nil))) pa_nil)))) pss_nil)
      (pss_cons (ps_if (pt_cmpR op_eq (pv 4) pe_int (nomark _)) (pss_one (ps_ret (pe_callTy (cr_dictMK (P := P) (w := w) (K := K) rfl rfl rfl rfl (u64 hr)) (by rfl) T.b_dict (show bootBuiltins "dict" = some (.type "dict") by decide +kernel) (pa_cons (pe_op op_cat (pv 3) (pe_lst (pa_cons (pe_tup (pa_cons (pv 5) (pa_cons (pe_call (ok_law_pick T) (hr.mono (by decide)) (by rfl) T.law_pick.g T.law_pick.F.kp T.law_pick.b .nil pass0 (pa_cons (pv 0) (pa_cons (pe_lst (pa_cons (pe_lst pa_nil) (pa_cons (pe_tup pa_nil) (pa_cons (pv 1) (pa_cons pe_str (pa_cons pe_non (pa_cons (pe_lst (pa_cons (pv 7) pa_nil)) (pa_cons (pe_tup (pa_cons (pv 7) pa_nil)) (pa_cons (pe_disp (pps_cons (pv 5) pe_int pps_nil) (by rfl) (by rfl) (fun z => by cases z) (by decide)) (pa_cons (pe_lst (pa_cons (pe_lst (pa_cons (pv 5) pa_nil)) pa_nil)) pa_nil)))))))))) pa_nil))) pa_nil))) pa_nil))) pa_nil)))) pss_nil)
      (pss_one (ps_ret (pe_callTy (cr_dictMK (P := P) (w := w) (K := K) rfl rfl rfl rfl (u64 hr)) (by rfl) T.b_dict (show bootBuiltins "dict" = some (.type "dict") by decide +kernel) (pa_cons (pe_op op_cat (pe_lst (pa_cons (pe_tup (pa_cons (pv 5) (pa_cons (pv 6) pa_nil))) pa_nil)) (pv 3)) pa_nil))))))))))), ?_⟩
    dsimp only [cxOf]
    have hl3 := hl.few
    have hsn : sg.Nodup := hl.up.imp fun h => Nat.ne_of_lt h
    obtain ⟨hpo, f, hd, hf⟩ := hL
    have hd' := nw_le _ _ hd
    have hol : od.length = sg.length := hpo.length_eq
    have hon : od.Nodup := hpo.nodup_iff.mpr hsn
    refine ⟨_, rfl, d, dkM (od.map fun c => (kT c, f c)), rfl, .dk hd', fun H1 rl ts s1 nrl nts rlts hrl hts off1 => ?_⟩
    have hts : Paired (fun (t : Addr) (c : Nat) => H1 t = some (.tup [tx [c], f c])) ts od := by
      have e : pairM (dkM (od.map fun c => (kT c, f c))) = od.map fun c => (tx [c], f c) := by
        unfold pairM dkM
        rw [List.map_map, List.map_map]
        rfl
      rw [e] at hts
      have go : ∀ {ts : List Addr} {od : List Nat}, Paired (fun (t : Addr) (q : V × V) => H1 t = some (.tup [q.1, q.2])) ts (od.map fun c => (tx [c], f c)) → Paired (fun (t : Addr) (c : Nat) => H1 t = some (.tup [tx [c], f c])) ts od := by
        intro ts od
        induction od generalizing ts with
        | nil => intro h; cases h; exact .nil
        | cons c od ih => intro h; cases h with | cons h t => exact .cons h (ih t)
      exact go hts
    have hp1 := hp.same s1
    have ha1 : a ≠ rl := hp.ne nrl
    have htl : ts.length = od.length := hts.length
    have hln := hl.ne
    refine ⟨_, rfl, a, 6, rfl, hp1, by decide, by decide, fun H2 way hway hp2 o2 => ⟨_, _, rfl, ?_⟩⟩
    have hrl2 := o2 _ _ hrl ha1.symm
    refine ⟨_, rfl, .inl ⟨rfl, _, .inl (.inl hrl2)⟩, _, rfl, _, rfl, rl, _, rfl, .inl (.inl (.inl hrl2)), a, (ts.map V.ref).length, rfl, hp2, by rw [List.length_map]; omega, by rw [List.length_map]; omega, fun H3 k hk hp3 o3 => ?_⟩
    rw [List.length_map] at hk
    have hrl3 := o3 _ _ hrl2 ha1.symm
    have hkt : k < ts.length := hk
    refine ⟨rl, _, (k : Int), k, .ref ts[k], rfl, rfl, hrl3, by omega, by omega, by unfold seqIndex?; simp; omega, by rw [List.getElem?_map, List.getElem?_eq_getElem hkt]; rfl, ?_⟩
    rw [eraseIdx_map]
    -- the sign that is taken out
    obtain ⟨ch, hch⟩ : ∃ ch, od[k]? = some ch := ⟨od[k]'(by omega), List.getElem?_eq_getElem _⟩
    have hT0 : H1 ts[k] = some (.tup [tx [ch], f ch]) := by
      obtain ⟨y, e1, e2⟩ := L2.paired_get hts (List.getElem?_eq_getElem hkt)
      rw [hch] at e1
      cases e1
      exact e2
    have na : ∀ {t : Addr} {xs : List V}, H1 t = some (.tup xs) → t ≠ a := fun {t xs} e z => by
      obtain ⟨x, y, e2, _⟩ := hp1
      rw [z, e2] at e
      cases e
    have nr : ∀ {t : Addr} {xs : List V}, H1 t = some (.tup xs) → t ≠ rl := fun {t xs} e z => by
      rw [z, hrl] at e
      cases e
    have keep : ∀ {t : Addr} {xs : List V}, H1 t = some (.tup xs) → upd H3 rl (.lst ((ts.eraseIdx k).map V.ref)) t = some (.tup xs) := fun {t xs} e => by
      rw [upd_ne (nr e)]
      exact o3 _ _ (o2 _ _ e (na e)) (na e)
    have hT := paired_erase (_root_.L2.Paired.mapP hts fun t c e => keep e) k
    have hrl4 := upd_same (H := H3) (a := rl) (o := .lst ((ts.eraseIdx k).map V.ref))
    have hT4 := keep hT0
    have hp4 : Pot (upd H3 rl (.lst ((ts.eraseIdx k).map V.ref))) a := hp3.up ha1
    have off4 : Off a H (upd H3 rl (.lst ((ts.eraseIdx k).map V.ref))) := fun b o e n => by
      rw [upd_ne fun z => by rw [z, nrl] at e; cases e]
      exact o3 _ _ (o2 _ _ (s1 _ _ e) n) n
    generalize upd H3 rl (.lst ((ts.eraseIdx k).map V.ref)) = H4 at *
    clear hrl hrl2 hrl3 hT0 na nr keep hts o2 o3 off1 hp1 hp2 hp3 s1 nts rlts nrl
    refine ⟨ts[k], _, rfl, .inl (.inl hT4), rfl, ?_⟩
    have hcs : ch ∈ sg := hpo.mem_iff.mp (List.mem_of_getElem? hch)
    have hE : ∀ H5, Off a H4 H5 → ∀ c ∈ sg, Ent K (nw H0 H5) (bE tp L f c) := fun H5 o5 c hc => (ent_base hl hHL hc (hf c hc)).same (nw_off hp0 (off4.trans o5))
    have hB : ∀ H5, Off a H4 H5 → Paired (fun (t : Addr) (e : EntX) => H5 t = some (.tup [e.1.2.1, e.1.2.2])) (ts.eraseIdx k) ((od.eraseIdx k).map (bE tp L f)) := fun H5 o5 =>
      paired_bE (_root_.L2.Paired.mapP hT fun t c e => o5 _ _ e fun z => by
        obtain ⟨x, y, e2, _⟩ := hp4
        rw [z, e2] at e
        cases e)
    have hBe : ∀ H5, Off a H4 H5 → ∀ e ∈ (od.eraseIdx k).map (bE tp L f), Ent K (nw H0 H5) e := fun H5 o5 e he => by
      obtain ⟨c, hc, rfl⟩ := List.mem_map.mp he
      exact hE H5 o5 c (hpo.mem_iff.mp (List.mem_of_mem_eraseIdx hc))
    have hnd0 : (((od.eraseIdx k).map (bE tp L f)).map fun e => e.1.1) = (od.eraseIdx k).map fun c => PyData.str (tS [c]) := by rw [List.map_map]; rfl
    have hzl : ((od.eraseIdx k).map (bE tp L f)).length ≤ 2 := by
      rw [List.length_map, List.length_eraseIdx_of_lt (by omega)]
      omega
    have hon2 : (od.eraseIdx k).Nodup := hon.sublist (List.eraseIdx_sublist _ _)
    have hnot : ch ∉ od.eraseIdx k := fun z => by
      have := perm_erase (l := od) (k := k) (by omega)
      rw [show od[k] = ch from by rw [List.getElem?_eq_getElem (by omega)] at hch; exact Option.some.inj hch] at this
      have := (this.nodup_iff.mpr hon)
      exact (List.nodup_cons.mp this).1 z
    have fin : ∀ {H5 : Hp} {l : Addr} {ts5 : List Addr} {en : List EntX}, Off a H4 H5 → Pot H5 a → H5 l = some (.lst (ts5.map V.ref)) → Paired (fun (t : Addr) (e : EntX) => H5 t = some (.tup [e.1.2.1, e.1.2.2])) ts5 en →
        (∀ e ∈ en, Ent K (nw H0 H5) e) → (en.map fun e => e.1.1).Nodup → en.length ≤ 6 → rDictM P w K [.ref l] H5 Q := fun o5 h5 e1 e2 e3 e4 e5 =>
      other_ret e1 e2 e3 e4 e5 h5 (ho0.trans (off4.trans o5)) fun H' v x h1 h2 h3 h4 => q H' v x h1 (off4.trans (o5.trans h2)) h3 h4
    have nap : ∀ {t : Addr} {o : HO}, H4 t = some o → (∀ xs, o ≠ .lst xs) → t ≠ a := fun {t o} e n z => by
      obtain ⟨x, y, e2, _⟩ := hp4
      rw [z, e2] at e
      exact n _ (Option.some.inj e).symm
    have hrla : rl ≠ a := ha1.symm
    have go : ∀ {H5 : Hp} {l2 : Addr} {ts1 : List Addr} {en1 : List EntX}, Off a H4 H5 → Pot H5 a → H5 l2 = some (.lst (ts1.map V.ref)) → Paired (fun (t : Addr) (e : EntX) => H5 t = some (.tup [e.1.2.1, e.1.2.2])) ts1 en1 →
        (∀ e ∈ en1, Ent K (nw H0 H5) e) → (en1.map fun e => e.1.1).Nodup → (∀ e ∈ en1, ∀ c ∈ od.eraseIdx k, e.1.1 ≠ .str (tS [c])) → en1.length ≤ 2 → rCat (.ref rl) (.ref l2) H5 (fun x H' => rDictM P w K [x] H' Q) := fun {H5 l2 ts1 en1} o5 h5 e1 e2 e3 e4 e6 e5 => by
      have l1 := (hB H5 o5).length
      have l2' := e2.length
      refine ⟨rl, l2, _, _, rfl, rfl, o5 _ _ hrl4 hrla, e1, sz (by rw [List.length_map, List.length_map]; omega), fun p np => ?_⟩
      rw [← List.map_append]
      have sp := same_upd (o := .lst ((ts.eraseIdx k ++ ts1).map V.ref)) np
      have o6 := o5.trans (Off.of sp)
      refine fin o6 (h5.same sp) upd_same (paired_app (hB _ o6) (_root_.L2.Paired.mapP e2 fun t e z => sp _ _ z)) (fun e he => ?_) ?_ (by rw [List.length_append]; omega)
      · rcases List.mem_append.mp he with he | he
        · exact hBe _ o6 e he
        · exact (e3 e he).same (nw_mono sp)
      · rw [List.map_append, hnd0, List.nodup_append]
        refine ⟨str_nodup hon2, e4, fun x hx y hy z => ?_⟩
        obtain ⟨c, hc, rfl⟩ := List.mem_map.mp hx
        obtain ⟨e, he, rfl⟩ := List.mem_map.mp hy
        exact e6 e he c hc z.symm
    have hF : ∀ H5, Off a H4 H5 → ∀ c ∈ sg, Dp K (nw H0 H5) (f c) (dH (tp c) (L c)) := fun H5 o5 c hc => Dp.same (nw_off hp0 (off4.trans o5)) (hf c hc)
    clear q hd hd' hT hf
    refine ⟨_, _, rfl, _, _, rfl, rfl, ?_⟩
    dsimp only
    -- way 0
    refine ⟨_, rfl, rfl, _, rfl, ?_⟩
    by_cases w0 : way = 0
    · refine ite_t (by simp [w0]) ⟨_, rfl, fin (Off.refl _ _) hp4 hrl4 (hB _ (Off.refl _ _)) (hBe _ (Off.refl _ _)) ?_ (by omega)⟩
      rw [hnd0]
      exact str_nodup hon2
    refine ite_f (by simp; omega) ?_
    dsimp only [tNext]
    -- way 1
    refine ⟨_, rfl, rfl, _, rfl, ?_⟩
    by_cases w1 : way = 1
    · refine ite_t (by simp [w1]) ?_
      refine ⟨_, rfl, _, rfl, _, rfl, [ch], [97], rfl, rfl, sz (by simp), _, rfl, by show 1 ≤ sizeLine; decide, fun t1 nt1 => ?_⟩
      have st1 := same_upd (o := .tup [tx [ch]]) nt1
      have ht1 := upd_same (H := H4) (a := t1) (o := .tup [tx [ch]])
      generalize upd H4 t1 (.tup [tx [ch]]) = H5 at *
      refine ⟨by show 6 ≤ sizeLine; decide, fun l1 nl1 => ?_⟩
      have hp5 := hp4.same st1
      have nl1a := (hp5.ne nl1).symm
      have sl1 := same_upd (o := .lst [V.str "q", V.str "", tx ([ch] ++ [97]), .int 0, .non, .ref t1]) nl1
      have hl1 := upd_same (H := H5) (a := l1) (o := .lst [V.str "q", V.str "", tx ([ch] ++ [97]), .int 0, .non, .ref t1])
      have ht1 := sl1 _ _ ht1
      have s46 := st1.trans sl1
      generalize upd H5 l1 (.lst [V.str "q", V.str "", tx ([ch] ++ [97]), .int 0, .non, .ref t1]) = H6 at *
      have hp6 := hp4.same s46
      have n01 := (ho0.trans off4).free nt1 hp4
      refine ⟨a, .ref l1, rfl, hp6, .inr ⟨l1, _, rfl, nl1a, .inl (.inl hl1), by simp, by simp, fun H7 v hv hp7 o7 => ?_⟩⟩
      have o47 := (Off.of s46).trans o7
      have t1a : t1 ≠ a := (hp4.ne nt1).symm
      have ht7 := o7 _ _ ht1 t1a
      refine ⟨_, rfl, by show 2 ≤ sizeLine; decide, fun t2 nt2 => ?_⟩
      have st2 := same_upd (o := .tup [v, f ch]) nt2
      have ht2 := upd_same (H := H7) (a := t2) (o := .tup [v, f ch])
      have ht7 := st2 _ _ ht7
      generalize upd H7 t2 (.tup [v, f ch]) = H8 at *
      refine ⟨by show 1 ≤ sizeLine; decide, fun l2 nl2 => ?_⟩
      have sl2 := same_upd (o := .lst [V.ref t2]) nl2
      have hl2 := upd_same (H := H8) (a := l2) (o := .lst [V.ref t2])
      have ht7 := sl2 _ _ ht7
      have ht2 := sl2 _ _ ht2
      have s79 := st2.trans sl2
      generalize upd H8 l2 (.lst [V.ref t2]) = H9 at *
      have hp9 := hp7.same s79
      have o49 := o47.trans (Off.of s79)
      have hv' : v = V.str "q" ∨ v = V.str "" ∨ v = tx ([ch] ++ [97]) ∨ v = .int 0 ∨ v = .non ∨ v = .ref t1 := by simpa only [List.mem_cons, List.not_mem_nil, or_false] using hv
      obtain ⟨kk, k1, k2, k3⟩ := key_pick (K := K) (H := nw H0 H9) (hl.az ch hcs) (e := 97) (by decide) (fun t e => by
        have : t = t1 := by
          subst e
          rcases hv' with z | z | z | z | z | z <;> first | exact V.ref.inj z | cases z
        rw [this, nw_at n01]; exact ht7) (hv'.imp id (Or.imp id (Or.imp id (Or.imp id (Or.imp id fun z => ⟨t1, z⟩)))))
      refine go (ts1 := [t2]) (en1 := [((kk, v, f ch), dH (tp ch) (L ch))]) o49 hp9 hl2 (.cons ht2 .nil) (fun e he => ?_) (by simp) (fun e he c hc => ?_) (by simp)
      · rw [List.mem_singleton.mp he]
        have := hE H9 o49 ch hcs
        exact ⟨k1, k2, this.v, this.t⟩
      · rw [List.mem_singleton.mp he]
        exact k3 c (fun z => hq (z ▸ hpo.mem_iff.mp (List.mem_of_mem_eraseIdx hc)))
    refine ite_f (by simp; omega) ?_
    dsimp only [tNext]
    have hch113 : ch ≠ 113 := fun z => hq (z ▸ hcs)
    -- way 2
    refine ⟨_, rfl, rfl, _, rfl, ?_⟩
    by_cases w2 : way = 2
    · refine ite_t (by simp [w2]) ?_
      refine ⟨_, rfl, _, rfl, _, rfl, by show 2 ≤ sizeLine; decide, fun t1 nt1 => ?_⟩
      have st1 := same_upd (o := .tup [tx [ch], f ch]) nt1
      have ht1 := upd_same (H := H4) (a := t1) (o := .tup [tx [ch], f ch])
      generalize upd H4 t1 (.tup [tx [ch], f ch]) = H5 at *
      refine ⟨_, rfl, _, rfl, _, rfl, [ch], [ch], rfl, rfl, sz (by simp), by show 5 ≤ sizeLine; decide, fun l1 nl1 => ?_⟩
      have hp5 := hp4.same st1
      have nl1a := (hp5.ne nl1).symm
      have sl1 := same_upd (o := .lst [V.str "q", V.str "", tx ([ch] ++ [ch]), .int 0, .non]) nl1
      have hl1 := upd_same (H := H5) (a := l1) (o := .lst [V.str "q", V.str "", tx ([ch] ++ [ch]), .int 0, .non])
      have ht1 := sl1 _ _ ht1
      have s46 := st1.trans sl1
      generalize upd H5 l1 (.lst [V.str "q", V.str "", tx ([ch] ++ [ch]), .int 0, .non]) = H6 at *
      have hp6 := hp4.same s46
      refine ⟨a, .ref l1, rfl, hp6, .inr ⟨l1, _, rfl, nl1a, .inl (.inl hl1), by simp, by simp, fun H7 v hv hp7 o7 => ?_⟩⟩
      have o47 := (Off.of s46).trans o7
      have t1a : t1 ≠ a := (hp4.ne nt1).symm
      have ht7 := o7 _ _ ht1 t1a
      refine ⟨_, rfl, by show 1 ≤ sizeLine; decide, fun l3 nl3 => ?_⟩
      have n03 := (ho0.trans (off4.trans o47)).free nl3 hp7
      have sl3 := same_upd (o := .lst [tx [ch]]) nl3
      have hl3' := upd_same (H := H7) (a := l3) (o := .lst [tx [ch]])
      have ht7 := sl3 _ _ ht7
      generalize upd H7 l3 (.lst [tx [ch]]) = H8 at *
      refine ⟨by show 2 ≤ sizeLine; decide, fun t2 nt2 => ?_⟩
      have st2 := same_upd (o := .tup [v, .ref l3]) nt2
      have ht2 := upd_same (H := H8) (a := t2) (o := .tup [v, .ref l3])
      have ht7 := st2 _ _ ht7
      have hl3' := st2 _ _ hl3'
      generalize upd H8 t2 (.tup [v, .ref l3]) = H9 at *
      refine ⟨by show 2 ≤ sizeLine; decide, fun l2 nl2 => ?_⟩
      have sl2 := same_upd (o := .lst [V.ref t1, V.ref t2]) nl2
      have hl2 := upd_same (H := H9) (a := l2) (o := .lst [V.ref t1, V.ref t2])
      have ht7 := sl2 _ _ ht7
      have ht2 := sl2 _ _ ht2
      have hl3' := sl2 _ _ hl3'
      have s7a := sl3.trans (st2.trans sl2)
      generalize upd H9 l2 (.lst [V.ref t1, V.ref t2]) = H10 at *
      have hp10 := hp7.same s7a
      have o4a := o47.trans (Off.of s7a)
      have hv' : v = V.str "q" ∨ v = V.str "" ∨ v = tx ([ch] ++ [ch]) ∨ v = .int 0 ∨ v = .non := by simpa only [List.mem_cons, List.not_mem_nil, or_false] using hv
      obtain ⟨kk, k1, k2, k3⟩ := key_pick (K := K) (H := nw H0 H10) (hl.az ch hcs) (e := ch) (hl.az ch hcs) (fun t e => by
        subst e
        rcases hv' with z | z | z | z | z <;> cases z) (hv'.imp id (Or.imp id (Or.imp id (Or.imp id fun z => .inl z))))
      refine go (ts1 := [t1, t2]) (en1 := [bE tp L f ch, ((kk, v, .ref l3), .list [.str (tS [ch])])]) o4a hp10 hl2 (.cons ht7 (.cons ht2 .nil)) (fun e he => ?_) ?_ (fun e he c hc => ?_) (by simp)
      · rcases List.mem_cons.mp he with rfl | he
        · exact hE H10 o4a ch hcs
        · rw [List.mem_singleton.mp he]
          refine ⟨k1, k2, .data (.lst (.inl (.inl (by rw [nw_at n03]; exact hl3'))) (.cons (.str _) .nil)), vt_hs (b := false) (l := [[ch]]) (fun t ht => ?_) (by simp)⟩
          rw [List.mem_singleton.mp ht]
          have := hl.az ch hcs
          exact ⟨fun z hz => by rw [List.mem_singleton.mp hz]; omega, by simp⟩
      · show [PyData.str (tS [ch]), kk].Nodup
        refine List.nodup_cons.mpr ⟨fun z => k3 ch hch113 (List.mem_singleton.mp z).symm, by simp⟩
      · rcases List.mem_cons.mp he with rfl | he
        · intro z
          have : ch = c := by
            have := tS_inj (PyData.str.inj z)
            simpa using this
          exact hnot (this ▸ hc)
        · rw [List.mem_singleton.mp he]
          exact k3 c (fun z => hq (z ▸ hpo.mem_iff.mp (List.mem_of_mem_eraseIdx hc)))
    refine ite_f (by simp; omega) ?_
    dsimp only [tNext]
    -- one
    refine ⟨_, rfl, _, rfl, sg, rfl, sz (by omega), fun l1 nl1 => ?_⟩
    have sl1 := same_upd (o := .lst (sg.map fun c => tx [c])) nl1
    have hl1 := upd_same (H := H4) (a := l1) (o := .lst (sg.map fun c => tx [c]))
    generalize upd H4 l1 (.lst (sg.map fun c => tx [c])) = H5 at *
    have hp5 := hp4.same sl1
    refine ⟨_, rfl, sg, [122], rfl, rfl, sz (by simp; omega), _, rfl, by show 1 ≤ sizeLine; decide, fun l2 nl2 => ?_⟩
    have n02 := (ho0.trans (off4.trans (Off.of sl1))).free nl2 hp5
    have l2a := (hp5.ne nl2).symm
    have sl2 := same_upd (o := .lst [tx [ch]]) nl2
    have hl2 := upd_same (H := H5) (a := l2) (o := .lst [tx [ch]])
    have hl1 := sl2 _ _ hl1
    generalize upd H5 l2 (.lst [tx [ch]]) = H6 at *
    refine ⟨by show 11 ≤ sizeLine; decide, fun l3 nl3 => ?_⟩
    have sl3 := same_upd (o := .lst [V.str "", V.str "", V.str "q", V.str "A", V.str "*", tx (sg ++ [122]), .non, .int 0, .bl true, .ref l2, .int 97]) nl3
    have hl3 := upd_same (H := H6) (a := l3) (o := .lst [V.str "", V.str "", V.str "q", V.str "A", V.str "*", tx (sg ++ [122]), .non, .int 0, .bl true, .ref l2, .int 97])
    have hl1 := sl3 _ _ hl1
    have hl2 := sl3 _ _ hl2
    generalize upd H6 l3 (.lst [V.str "", V.str "", V.str "q", V.str "A", V.str "*", tx (sg ++ [122]), .non, .int 0, .bl true, .ref l2, .int 97]) = H7 at *
    have s47 := sl1.trans (sl2.trans sl3)
    refine ⟨l1, l3, _, _, rfl, rfl, hl1, hl3, sz (by simp; omega), fun l4 nl4 => ?_⟩
    have hp7 := hp4.same s47
    have l4a := (hp7.ne nl4).symm
    have sl4 := same_upd (o := .lst ((sg.map fun c => tx [c]) ++ [V.str "", V.str "", V.str "q", V.str "A", V.str "*", tx (sg ++ [122]), .non, .int 0, .bl true, .ref l2, .int 97])) nl4
    have hl4 := upd_same (H := H7) (a := l4) (o := .lst ((sg.map fun c => tx [c]) ++ [V.str "", V.str "", V.str "q", V.str "A", V.str "*", tx (sg ++ [122]), .non, .int 0, .bl true, .ref l2, .int 97]))
    have hl2 := sl4 _ _ hl2
    generalize upd H7 l4 (.lst ((sg.map fun c => tx [c]) ++ [V.str "", V.str "", V.str "q", V.str "A", V.str "*", tx (sg ++ [122]), .non, .int 0, .bl true, .ref l2, .int 97])) = H8 at *
    have s48 := s47.trans sl4
    refine ⟨a, .ref l4, rfl, hp4.same s48, .inr ⟨l4, _, rfl, l4a, .inl (.inl hl4), by simp, by simp; omega, fun H9 one hv hp9 o9 => ?_⟩⟩
    have o49 := (Off.of s48).trans o9
    have hl2 := o9 _ _ hl2 l2a
    obtain ⟨dd, hone⟩ := odd_pick (K := K) (H := nw H0 H9) hl hcs (by rw [nw_at n02]; exact hl2) hv
    clear hv hl1 hl2 hl3 hl4 nl1 nl2 nl3 nl4 sl1 sl2 sl3 sl4 s47 s48 hp5 hp7 o9 n02
    dsimp only [gName]
    have lo : ch < 123 := by have := (hl.az ch hcs).2; omega
    have go1 : ∀ {H5 : Hp} {t1 l2 : Addr} {v : V} {x : PyData}, Off a H4 H5 → Pot H5 a → H5 t1 = some (.tup [tx [ch], v]) → H5 l2 = some (.lst [.ref t1]) → DpD K (nw H0 H5) v x → Vt x → rCat (.ref rl) (.ref l2) H5 (fun x H' => rDictM P w K [x] H' Q) := fun {H5 t1 l2 v x} o5 h5 e1 e2 e3 e4 =>
      go (ts1 := [t1]) (en1 := [((.str (tS [ch]), tx [ch], v), x)]) o5 h5 e2 (.cons e1 .nil) (fun e he => by
        rw [List.mem_singleton.mp he]
        exact ⟨.str _, .inl ⟨[ch], rfl, (fun z hz => by rw [List.mem_singleton.mp hz]; exact hl.az ch hcs), by simp⟩, e3, e4⟩) (by simp) (fun e he c hc z => by
        rw [List.mem_singleton.mp he] at z
        have : ch = c := by
          have := tS_inj (PyData.str.inj z)
          simpa using this
        exact hnot (this ▸ hc)) (by simp)
    -- way 3
    refine ⟨_, rfl, rfl, _, rfl, ?_⟩
    by_cases w3 : way = 3
    · refine ite_t (by simp [w3]) ?_
      obtain ⟨b, hb, hS⟩ := Sq.same (dH_sq (hF H9 o49 ch hcs)) nw_le
      refine ⟨_, rfl, _, rfl, _, rfl, b, _, congrArg (fun z => [z]) hb, hS, fun l5 nl5 => ?_⟩
      have s5 := same_upd (o := .lst ((L ch).map tx)) nl5
      have h5 := upd_same (H := H9) (a := l5) (o := .lst ((L ch).map tx))
      generalize upd H9 l5 (.lst ((L ch).map tx)) = Ha at *
      refine ⟨_, rfl, by show 1 ≤ sizeLine; decide, fun l6 nl6 => ?_⟩
      have s6 := same_upd (o := .lst [one]) nl6
      have h6 := upd_same (H := Ha) (a := l6) (o := .lst [one])
      have h5 := s6 _ _ h5
      generalize upd Ha l6 (.lst [one]) = Hb at *
      have few := hHL.few ch hcs
      refine ⟨l5, l6, _, _, rfl, rfl, h5, h6, sz (by simp; omega), fun l7 nl7 => ?_⟩
      have s96 := s5.trans s6
      have n07 := (ho0.trans (off4.trans (o49.trans (Off.of s96)))).free nl7 (hp9.same s96)
      have s7 := same_upd (o := .lst ((L ch).map tx ++ [one])) nl7
      have h7 := upd_same (H := Hb) (a := l7) (o := .lst ((L ch).map tx ++ [one]))
      generalize upd Hb l7 (.lst ((L ch).map tx ++ [one])) = Hc at *
      refine ⟨by show 2 ≤ sizeLine; decide, fun t1 nt1 => ?_⟩
      have s8 := same_upd (o := .tup [tx [ch], .ref l7]) nt1
      have h8 := upd_same (H := Hc) (a := t1) (o := .tup [tx [ch], .ref l7])
      have h7 := s8 _ _ h7
      generalize upd Hc t1 (.tup [tx [ch], .ref l7]) = Hd at *
      refine ⟨by show 1 ≤ sizeLine; decide, fun l8 nl8 => ?_⟩
      have s9 := same_upd (o := .lst [V.ref t1]) nl8
      have h9 := upd_same (H := Hd) (a := l8) (o := .lst [V.ref t1])
      have h7 := s9 _ _ h7
      have h8 := s9 _ _ h8
      generalize upd Hd l8 (.lst [V.ref t1]) = He at *
      have sA := s96.trans (s7.trans (s8.trans s9))
      have hone := hone.same (nw_mono (H := H0) sA)
      have good : ∀ t ∈ L ch, (∀ c ∈ t, c < 1114112) ∧ t.length ≤ 8 := fun t ht => by
        rcases hHL.ok ch hcs t ht with rfl | ⟨b, hb, rfl⟩
        · exact ⟨(fun z hz => nomatch hz), by simp⟩
        · have := hl.az b hb
          exact ⟨fun z hz => by rw [List.mem_singleton.mp hz]; omega, by simp⟩
      exact go1 (o49.trans (Off.of sA)) (hp9.same sA) h8 h9 (.data (.lst (.inl (.inl (by rw [nw_at n07]; exact h7))) (dpAll_snoc hone.v (hs_dpAll _)))) (lst_vt hone good few).1
    refine ite_f (by simp; omega) ?_
    dsimp only [tNext]
    -- way 4
    refine ⟨_, rfl, rfl, _, rfl, ?_⟩
    by_cases w4 : way = 4
    · refine ite_t (by simp [w4]) ?_
      refine ⟨_, rfl, _, rfl, _, rfl, by show 0 ≤ sizeLine; decide, fun e1 m1 => ?_⟩
      have s1 := same_upd (o := .lst []) m1
      have h1 := upd_same (H := H9) (a := e1) (o := .lst [])
      generalize upd H9 e1 (.lst []) = Ha at *
      refine ⟨by show 0 ≤ sizeLine; decide, fun e2 m2 => ?_⟩
      have s2 := same_upd (o := .tup []) m2
      have h2 := upd_same (H := Ha) (a := e2) (o := .tup [])
      generalize upd Ha e2 (.tup []) = Hb at *
      refine ⟨_, rfl, _, rfl, by show 1 ≤ sizeLine; decide, fun e3 m3 => ?_⟩
      have s3 := same_upd (o := .lst [one]) m3
      have h3 := upd_same (H := Hb) (a := e3) (o := .lst [one])
      generalize upd Hb e3 (.lst [one]) = Hc at *
      refine ⟨_, rfl, by show 1 ≤ sizeLine; decide, fun e4 m4 => ?_⟩
      have s4 := same_upd (o := .tup [one]) m4
      have h4 := upd_same (H := Hc) (a := e4) (o := .tup [one])
      generalize upd Hc e4 (.tup [one]) = Hd at *
      intro e5 m5
      refine ⟨_, rfl, upd_same, [(kT ch, .int 1)], rfl, by simp, ?_⟩
      have em : mergeK [] [(kT ch, V.int 1)] = [(kT ch, .int 1)] := merge_nodup [(kT ch, V.int 1)] [] (by simp)
      rw [em, upd_upd]
      have s5 := same_upd (o := .dK [(kT ch, .int 1)]) m5
      have h5 := upd_same (H := Hd) (a := e5) (o := .dK [(kT ch, .int 1)])
      generalize upd Hd e5 (.dK [(kT ch, .int 1)]) = He at *
      refine ⟨_, rfl, by show 1 ≤ sizeLine; decide, fun e6 m6 => ?_⟩
      have s6 := same_upd (o := .lst [tx [ch]]) m6
      have h6 := upd_same (H := He) (a := e6) (o := .lst [tx [ch]])
      generalize upd He e6 (.lst [tx [ch]]) = Hf at *
      refine ⟨by show 1 ≤ sizeLine; decide, fun e7 m7 => ?_⟩
      have s7 := same_upd (o := .lst [V.ref e6]) m7
      have h7 := upd_same (H := Hf) (a := e7) (o := .lst [V.ref e6])
      generalize upd Hf e7 (.lst [V.ref e6]) = Hg at *
      refine ⟨by show 9 ≤ sizeLine; decide, fun e8 m8 => ?_⟩
      have s8 := same_upd (o := .lst [V.ref e1, .ref e2, tx sg, V.str "", .non, .ref e3, .ref e4, .ref e5, .ref e7]) m8
      have h8 := upd_same (H := Hg) (a := e8) (o := .lst [V.ref e1, .ref e2, tx sg, V.str "", .non, .ref e3, .ref e4, .ref e5, .ref e7])
      generalize upd Hg e8 (.lst [V.ref e1, .ref e2, tx sg, V.str "", .non, .ref e3, .ref e4, .ref e5, .ref e7]) = Hh at *
      have p1 := hp9.same s1
      have p2 := p1.same s2
      have p3 := p2.same s3
      have p4 := p3.same s4
      have p5 := p4.same s5
      have p6 := p5.same s6
      have p7 := p6.same s7
      have q1 := ho0.trans (off4.trans o49)
      have q2 := q1.trans (Off.of s1)
      have q3 := q2.trans (Off.of s2)
      have q4 := q3.trans (Off.of s3)
      have q5 := q4.trans (Off.of s4)
      have q6 := q5.trans (Off.of s5)
      have q7 := q6.trans (Off.of s6)
      have t8 := s8
      have t7 := s7.trans t8
      have t6 := s6.trans t7
      have t5 := s5.trans t6
      have t4 := s4.trans t5
      have t3 := s3.trans t4
      have t2 := s2.trans t3
      have t1 := s1.trans t2
      refine ⟨a, .ref e8, rfl, hp9.same t1, .inr ⟨e8, _, rfl, (p7.ne m8).symm, .inl (.inl h8), by simp, by simp, fun Hi v hv hpi oi => ?_⟩⟩
      have o4i := o49.trans ((Off.of t1).trans oi)
      obtain ⟨x, hx, hxv⟩ := vpick (K := K) (H := nw H0 Hi) (e6 := e6) hl hcs (hone.same ((nw_mono (H := H0) t1).trans (nw_off hp0 oi)))
        (by rw [nw_at (q1.free m1 hp9)]; exact oi _ _ (t2 _ _ h1) (hp9.ne m1).symm)
        (by rw [nw_at (q2.free m2 p1)]; exact oi _ _ (t3 _ _ h2) (p1.ne m2).symm)
        (by rw [nw_at (q3.free m3 p2)]; exact oi _ _ (t4 _ _ h3) (p2.ne m3).symm)
        (by rw [nw_at (q4.free m4 p3)]; exact oi _ _ (t5 _ _ h4) (p3.ne m4).symm)
        (by rw [nw_at (q5.free m5 p4)]; exact oi _ _ (t6 _ _ h5) (p4.ne m5).symm)
        (by rw [nw_at (q6.free m6 p5)]; exact oi _ _ (t7 _ _ h6) (p5.ne m6).symm)
        (by rw [nw_at (q7.free m7 p6)]; exact oi _ _ (t8 _ _ h7) (p6.ne m7).symm) hv
      refine ⟨by show 2 ≤ sizeLine; decide, fun u1 n1 => ?_⟩
      have r1 := same_upd (o := .tup [tx [ch], v]) n1
      have g1 := upd_same (H := Hi) (a := u1) (o := .tup [tx [ch], v])
      generalize upd Hi u1 (.tup [tx [ch], v]) = Hj at *
      refine ⟨by show 1 ≤ sizeLine; decide, fun u2 n2 => ?_⟩
      have r2 := same_upd (o := .lst [V.ref u1]) n2
      have g2 := upd_same (H := Hj) (a := u2) (o := .lst [V.ref u1])
      have g1 := r2 _ _ g1
      generalize upd Hj u2 (.lst [V.ref u1]) = Hk at *
      have r := r1.trans r2
      exact go1 (o4i.trans (Off.of r)) (hpi.same r) g1 g2 (dpd_same hx (nw_mono r)) hxv
    refine ite_f (by simp; omega) ?_
    dsimp only [tNext]
    -- way 5
    refine ⟨_, rfl, _, rfl, by show 2 ≤ sizeLine; decide, fun t1 nt1 => ?_⟩
    have s8 := same_upd (o := .tup [tx [ch], f ch]) nt1
    have h8 := upd_same (H := H9) (a := t1) (o := .tup [tx [ch], f ch])
    generalize upd H9 t1 (.tup [tx [ch], f ch]) = Hd at *
    refine ⟨by show 1 ≤ sizeLine; decide, fun l8 nl8 => ?_⟩
    have s9 := same_upd (o := .lst [V.ref t1]) nl8
    have h9 := upd_same (H := Hd) (a := l8) (o := .lst [V.ref t1])
    have h8 := s9 _ _ h8
    generalize upd Hd l8 (.lst [V.ref t1]) = He at *
    have sA := s8.trans s9
    have oA := o49.trans (Off.of sA)
    have hpA := hp9.same sA
    have l1 := (hB He oA).length
    refine ⟨_, rfl, l8, rl, _, _, rfl, rfl, h9, oA _ _ hrl4 hrla, sz (by rw [List.length_map]; simp; omega), fun p np => ?_⟩
    have sp := same_upd (o := .lst ([V.ref t1] ++ (ts.eraseIdx k).map V.ref)) np
    have o6 := oA.trans (Off.of sp)
    refine fin (ts5 := t1 :: ts.eraseIdx k) (en := bE tp L f ch :: (od.eraseIdx k).map (bE tp L f)) o6 (hpA.same sp) upd_same (.cons (sp _ _ h8) (hB _ o6)) (fun e he => ?_) ?_ (by rw [List.length_cons]; omega)
    · rcases List.mem_cons.mp he with rfl | he
      · exact hE _ o6 ch hcs
      · exact hBe _ o6 e he
    · rw [List.map_cons, hnd0, List.nodup_cons]
      refine ⟨fun z => ?_, str_nodup hon2⟩
      obtain ⟨c, hc, e⟩ := List.mem_map.mp z
      have : c = ch := by
        have := tS_inj (PyData.str.inj e)
        simpa using this
      exact hnot (this ▸ hc)
end
end Lw
namespace Lw
open PySem PySem.Spec PyProof.Rows L3
open L2 hiding del del_same del_ne
theorem good_of {d : PyData} {w k : Nat} (h : Wt d w k) (hw : w ≤ 20000) (hk : k ≤ 40) (n : ∀ kd, d ≠ .dict kd) : GoodT d :=
  ⟨⟨h.l, h.s, Nat.le_trans h.w hw, Nat.le_trans h.p hk⟩, by cases d <;> first | trivial | exact absurd rfl (n _), fun kd e => absurd e (n kd)⟩
theorem items_facts : ∀ {kd : List (PyData × PyData)}, (∀ p ∈ kd, keyOk p.1) → (∀ p ∈ kd, Vt p.2) → PyData.leavesShortAll 10 (kd.map fun p => PyData.tuple [p.1, p.2]) = true ∧ PyData.showableAll (kd.map fun p => PyData.tuple [p.1, p.2]) = true ∧
    PyData.weightAll (kd.map fun p => PyData.tuple [p.1, p.2]) ≤ 450 * kd.length ∧ PyData.depthAll (kd.map fun p => PyData.tuple [p.1, p.2]) ≤ 12
  | [], _, _ => ⟨rfl, rfl, Nat.le_refl _, Nat.zero_le _⟩
  | (k, v) :: kd, h1, h2 => by
    obtain ⟨a, b, c, d⟩ := items_facts (kd := kd) (fun p hp => h1 p (List.mem_cons_of_mem _ hp)) fun p hp => h2 p (List.mem_cons_of_mem _ hp)
    have hk := key_wt (h1 _ List.mem_cons_self)
    have hv := h2 _ List.mem_cons_self
    have e1 := hk.l
    have e2 := hk.s
    have e3 := hk.w
    have e4 := hk.p
    have f1 := hv.l
    have f2 := hv.s
    have f3 := hv.w
    have f4 := hv.p
    dsimp only at e1 e2 e3 e4 f1 f2 f3 f4
    rw [List.map_cons]
    refine ⟨?_, ?_, ?_, ?_⟩
    · simp only [PyData.leavesShortAll, PyData.leavesShort, e1, f1, a, Bool.and_self]
    · simp only [PyData.showableAll, PyData.showable, e2, f2, b, Bool.and_self]
    · simp only [PyData.weightAll, PyData.weight, List.length_cons]
      omega
    · simp only [PyData.depthAll, PyData.depth]
      omega
theorem items_good {kd : List (PyData × PyData)} (h : GoodK kd) : GoodT (.list (kd.map fun p => PyData.tuple [p.1, p.2])) := by
  obtain ⟨a, b, c, d⟩ := items_facts h.k h.v
  have := h.l
  refine ⟨⟨by simpa only [PyData.leavesShort] using a, by simpa only [PyData.showable] using b, ?_, ?_⟩, trivial, fun kd' e => by cases e⟩
  · simp only [PyData.weight]; omega
  · simp only [PyData.depth]; omega
theorem sg_pick {v : V} (hv : v ∈ [V.str "a", V.str "ab", V.str "bz", V.str "abc", V.str "xyz"]) : ∃ sg, v = tx sg ∧ Lets sg ∧ 113 ∉ sg := by
  simp only [List.mem_cons, List.not_mem_nil, or_false] at hv
  rcases hv with rfl | rfl | rfl | rfl | rfl
  · exact ⟨[97], rfl, ⟨by decide, by decide, by decide, by decide⟩, by decide⟩
  · exact ⟨[97, 98], rfl, ⟨by decide, by decide, by decide, by decide⟩, by decide⟩
  · exact ⟨[98, 122], rfl, ⟨by decide, by decide, by decide, by decide⟩, by decide⟩
  · exact ⟨[97, 98, 99], rfl, ⟨by decide, by decide, by decide, by decide⟩, by decide⟩
  · exact ⟨[120, 121, 122], rfl, ⟨by decide, by decide, by decide, by decide⟩, by decide⟩
/-- all of these are good values -/
def Things (P : Program) (w : World) (K : PySem.W.Frag) (H : Hp) (vs : List V) : Prop := ∀ v ∈ vs, ∃ x, DpM P w K H v x ∧ GoodT x
theorem Things.same {P : Program} {w : World} {K : PySem.W.Frag} {H H' : Hp} {vs : List V} (h : Things P w K H vs) (s : Same H H') : Things P w K H' vs := fun v hv => by
  obtain ⟨x, h1, h2⟩ := h v hv
  exact ⟨x, dpm_same h1 s, h2⟩
theorem Things.snoc {P : Program} {w : World} {K : PySem.W.Frag} {H : Hp} {vs : List V} {v : V} {x : PyData} (h : Things P w K H vs) (h1 : DpM P w K H v x) (h2 : GoodT x) : Things P w K H (vs ++ [v]) := fun u hu => by
  rcases List.mem_append.mp hu with hu | hu
  · exact h u hu
  · rw [List.mem_singleton.mp hu]
    exact ⟨x, h1, h2⟩
/-- all but the pot and the list -/
def dd (H : Hp) (a l : Addr) : Hp := del (del H l) a
theorem dd_le {H : Hp} {a l : Addr} : Same (dd H a l) H := fun b o e => del_same _ _ _ _ (del_same _ _ _ _ e)
theorem dd_off {H H' : Hp} {a l : Addr} (o : Off a H H') : Same (dd H a l) (dd H' a l) := fun b u e => by
  unfold dd at e ⊢
  by_cases h1 : b = a
  · rw [h1, del_at] at e; cases e
  · rw [del_ne h1] at e ⊢
    by_cases h2 : b = l
    · rw [h2, del_at] at e; cases e
    · rw [del_ne h2] at e ⊢
      exact o b u e h1
theorem dd_upd {H : Hp} {a l : Addr} {o : HO} : dd (upd H l o) a l = dd H a l := by unfold dd; rw [del_upd]
theorem dd_new {H : Hp} {a l b : Addr} {o : HO} (h : H b = some o) (n1 : b ≠ a) (n2 : b ≠ l) : dd H a l b = some o := by unfold dd; rw [del_ne n1, del_ne n2]; exact h
theorem things_base {P : Program} {w : World} {K : PySem.W.Frag} {H : Hp} {sg : List Nat} {e1 e2 e3 e4 e5 e6 e7 e8 e9 : Addr} (hl : Lets sg) (h1 : H e1 = some (.lst [])) (h2 : H e2 = some (.tup [])) (h3 : H e3 = some (.dK [])) (h4 : H e4 = some (.dK [])) (h5 : H e5 = some (.lst [.ref e4]))
    (h7 : H e7 = some (.lst [V.str ""])) (h6 : H e6 = some (.dK [((Sum.inr "" : Key), .ref e7)])) (h9 : H e9 = some (.lst [tx sg])) (h8 : H e8 = some (.dK [((Sum.inr (tS sg) : Key), .ref e9)])) :
    Things P w K H [.non, .int 0, .bl true, V.str "", tx sg, .ref e1, .ref e2, .ref e3, .ref e5, .ref e6, .ref e8] := by
  have low : Low sg := hl.az
  have hlow : ∀ c ∈ sg, c < 1114112 := fun c hc => by have := (hl.az c hc).2; omega
  have h3' := hl.few
  intro v hv
  simp only [List.mem_cons, List.not_mem_nil, or_false] at hv
  rcases hv with rfl | rfl | rfl | rfl | rfl | rfl | rfl | rfl | rfl | rfl | rfl
  · exact ⟨.none, .data (.data .non), good_of Wt.non (by decide) (by decide) fun _ e => by cases e⟩
  · exact ⟨.int 0, .data (.data (.int 0)), good_of (Wt.int (by decide)) (by decide) (by decide) fun _ e => by cases e⟩
  · exact ⟨.bool true, .data (.data (.bl true)), good_of (Wt.bool true) (by decide) (by decide) fun _ e => by cases e⟩
  · exact ⟨.str (tS []), .data (.data (.str _)), good_of (Wt.text (n := 0) (fun z hz => nomatch hz) (by simp)) (by decide) (by decide) fun _ e => by cases e⟩
  · exact ⟨.str (tS sg), .data (.data (.str _)), good_of (Wt.text (n := 3) hlow h3') (by decide) (by decide) fun _ e => by cases e⟩
  · exact ⟨.list [], .data (.data (.lst (.inl (.inl h1)) .nil)), good_of (Wt.list (w := 0) (k := 0) (n := 0) (ds := []) (fun d hd => nomatch hd) (by simp)) (by decide) (by decide) fun _ e => by cases e⟩
  · exact ⟨.tuple [], .data (.data (.tup (.inl (.inl h2)) .nil)), good_of (Wt.tuple (w := 0) (k := 0) (n := 0) (ds := []) (fun d hd => nomatch hd) (by simp)) (by decide) (by decide) fun _ e => by cases e⟩
  · exact ⟨.dict [], .data (.dct h3 .nil rfl), good_dict (fun p hp => nomatch hp) List.nodup_nil (by simp) fun p hp => nomatch hp⟩
  · exact ⟨.list [.dict []], .data (.lst (.inl (.inl h5)) (.cons (.dct h4 .nil rfl) .nil)), ⟨⟨by decide +kernel, by decide +kernel, by decide +kernel, by decide +kernel⟩, trivial, fun kd e => by cases e⟩⟩
  · refine ⟨.dict [(.str (tS []), .list [.str (tS [])])], .data (.dct h6 (.cons (.data (.lst (.inl (.inl h7)) (.cons (.str _) .nil))) .nil) rfl), good_dict (fun p hp => ?_) (by simp) (by simp) fun p hp => ?_⟩
    · rw [List.mem_singleton.mp hp]
      exact .inl ⟨[], rfl, (fun z hz => nomatch hz), by simp⟩
    · rw [List.mem_singleton.mp hp]
      exact vt_hs (b := false) (l := [[]]) (fun t ht => by rw [List.mem_singleton.mp ht]; exact ⟨(fun z hz => nomatch hz), by simp⟩) (by simp)
  · refine ⟨.dict [(.str (tS sg), .list [.str (tS sg)])], .data (.dct h8 (.cons (.data (.lst (.inl (.inl h9)) (.cons (.str _) .nil))) .nil) rfl), good_dict (fun p hp => ?_) (by simp) (by simp) fun p hp => ?_⟩
    · rw [List.mem_singleton.mp hp]
      exact .inl ⟨sg, rfl, low, by omega⟩
    · rw [List.mem_singleton.mp hp]
      exact vt_hs (b := false) (l := [sg]) (fun t ht => by rw [List.mem_singleton.mp ht]; exact ⟨hlow, by omega⟩) (by simp)
theorem items_dp {K : PySem.W.Frag} {G : Hp} : ∀ {ts : List Addr} {es : List EntM} {ds : List PyData}, Paired (fun (t : Addr) (q : V × V) => G t = some (.tup [q.1, q.2])) ts (pairM es) → (∀ x ∈ es, Dp K G x.2.1 x.1) → DpDs K G (es.map (·.2.2)) ds →
    DpDs K G (ts.map V.ref) (((es.map (·.1)).zip ds).map fun p => PyData.tuple [p.1, p.2])
  | _, [], _, hp, _, hd => by
    cases hp
    cases hd
    exact .nil
  | _, e :: es, _, hp, hk, hd => by
    cases hd with
    | cons d1 d2 =>
      cases hp with
      | cons p1 p2 =>
        exact .cons (.tup (.inl (.inl p1)) (.cons (.data (hk e List.mem_cons_self)) (.cons d1 .nil))) (items_dp p2 (fun x hx => hk x (List.mem_cons_of_mem _ hx)) d2)
section
variable {P : Program} {w : World} {K : PySem.W.Frag} {mg : Str → Option Value} {base : Heap}
def spRight : Sp := fun vs H Q _ => ∃ p : Addr, vs = [.ref p] ∧ Pot H p ∧ ∀ H', Off p H H' → Q (.bl true) H'
theorem ok_law_right (T : All K mg) : FnOkG P w K mg base CX0 14 T.f_law_right T.d_law_right ["_law_pot_here"] spRight := by
  refine okG T.law_right.F sc_law_right (fun vs H Q E h => ?_) (fun cdv A outer s H vs Q E hr hG h => ?_)
  · obtain ⟨p, rfl, _⟩ := h
    rfl
  · obtain ⟨p, rfl, hp, q⟩ := h
    refine ⟨_, pss_cons (ps_set (i := 1) sc_law_right.nd rfl (by first | exact Or.inl rfl | exact Or.inr rfl) (pe_call (ok_law_pick T) (hr.mono (by decide)) (by rfl) T.law_pick.g T.law_pick.F.kp T.law_pick.b .nil pass0 (pa_cons (pv 0) (pa_cons (pe_lst (pa_cons pe_str (pa_cons pe_str (pa_cons pe_str (pa_cons pe_str (pa_cons pe_str pa_nil)))))) pa_nil))))
      (pss_cons (ps_set (i := 2) sc_law_right.nd rfl (by first | exact Or.inl rfl | exact Or.inr rfl) (pe_lst (pa_cons pe_non (pa_cons pe_int (pa_cons pe_bl (pa_cons pe_str (pa_cons (pv 1) (pa_cons (pe_lst pa_nil) (pa_cons (pe_tup pa_nil) (pa_cons pe_dnewK (pa_cons (pe_lst (pa_cons pe_dnewK pa_nil)) (pa_cons (pe_disp (pps_cons pe_str (pe_lst (pa_cons pe_str pa_nil)) pps_nil) (by rfl) (by rfl) (fun z => by cases z) (by decide)) (pa_cons (pe_disp (pps_cons (pv 1) (pe_lst (pa_cons (pv 1) pa_nil)) pps_nil) (by rfl) (by rfl) (fun z => by cases z) (by decide)) pa_nil)))))))))))))
      (pss_cons (ps_for PassesOwn.never rfl (pi_range1 rfl T.b_range (pa_cons pe_int pa_nil)) (pg_name (i := 3) sc_law_right.nd rfl (by first | exact Or.inl rfl | exact Or.inr rfl))
        (pss_one (ps_expr (pe_bm PySem.F.plainAttrs_list PySem.F.slot_list_append PySem.F.type_list_append mt_append (pv 2) (pa_cons (pe_call (ok_law_other T) (hr.mono (by decide)) (by rfl) T.law_other.g T.law_other.F.kp T.law_other.b .nil pass0 (pa_cons (pv 0) (pa_cons (pv 1) (pa_cons (pe_call (ok_law_line T) (hr.mono (by decide)) (by rfl) T.law_line.g T.law_line.F.kp T.law_line.b .nil pass0 (pa_cons (pv 0) (pa_cons (pv 1) pa_nil))) pa_nil)))) pa_nil)))))
      (pss_cons (ps_expr (pe_bm PySem.F.plainAttrs_list PySem.F.slot_list_append PySem.F.type_list_append mt_append (pv 2) (pa_cons (pe_listItemsMK (P := P) (w := w) (K := K) rfl rfl rfl rfl (pe_ix ix_list (pv 2) (pe_un un_neg pe_int) (fun _ _ => rfl)) (by rfl) T.b_list (by decide +kernel)) pa_nil)))
      (pss_cons (ps_for PassesOwn.never rfl (pi_list (pv 2)) (pg_name (i := 4) sc_law_right.nd rfl (by first | exact Or.inl rfl | exact Or.inr rfl))
        (pss_cons (ps_par rfl sc_law_right.nd (i := 5) (j := 6) rfl rfl (by decide) rfl rfl (pa_cons (pe_callB (call_reprMK (P := P) (w := w) (K := K) rfl rfl rfl (by exact u60 hr) hG) (by rfl) T.b_repr (by decide +kernel) (pa_cons (pv 4) pa_nil)) (pa_cons (pe_callG (ok_law_is_due T) (hr.mono (by decide)) hG (by rfl) T.law_is_due.g T.law_is_due.F.kp T.law_is_due.b pass0 (pa_cons (pv 1) (pa_cons (pv 4) pa_nil))) pa_nil)) (by rfl))
      (pss_cons (ps_if (pt_cmpR op_ne (pe_callB (call_reprAK rfl (by exact u60 hr) hG) (by rfl) T.b_repr (by decide +kernel) (pa_cons (pe_lst (pa_cons (pe_call (ok_is_lineM T) (hr.mono (by decide)) (by rfl) T.is_line.g T.is_line.F.kp T.is_line.b .nil pass0 (pa_cons (pv 1) (pa_cons (pv 4) pa_nil))) (pa_cons (pe_callK0 (FnOkG.of (ok_is_lineM T)) (hr.mono (by decide)) hG (by rfl) T.is_line.g T.is_line.F.kp (kb2 (n := "letters") (m := "value") T.is_line.F (fun _ _ _ _ _ _ _ _ => rfl)) pass0 (pk_cons (pv 4) (pk_cons (pv 1) pk_nil))) pa_nil))) pa_nil)) (pe_callB (call_reprAK rfl (by exact u60 hr) hG) (by rfl) T.b_repr (by decide +kernel) (pa_cons (pe_op op_rep (pe_lst (pa_cons (pv 6) pa_nil)) pe_int) pa_nil)) (nomark _)) (pss_one ps_never) pss_nil)
      (pss_one (ps_if (pt_cmpR op_ne (pe_callB (call_reprMK (P := P) (w := w) (K := K) rfl rfl rfl (by exact u60 hr) hG) (by rfl) T.b_repr (by decide +kernel) (pa_cons (pv 4) pa_nil)) (pv 5) (nomark _)) (pss_one ps_never) pss_nil)))))
      (pss_one (ps_ret pe_bl)))))), ?_⟩
    dsimp only [cxOf]
    refine ⟨_, rfl, by show 5 ≤ sizeLine; decide, fun l0 n0 => ?_⟩
    have s0 := same_upd (o := .lst [V.str "a", V.str "ab", V.str "bz", V.str "abc", V.str "xyz"]) n0
    have h0 := upd_same (H := H) (a := l0) (o := .lst [V.str "a", V.str "ab", V.str "bz", V.str "abc", V.str "xyz"])
    generalize upd H l0 (.lst [V.str "a", V.str "ab", V.str "bz", V.str "abc", V.str "xyz"]) = H1 at *
    refine ⟨p, .ref l0, rfl, hp.same s0, .inr ⟨l0, _, rfl, (hp.ne n0).symm, .inl (.inl h0), by simp, by simp, fun H2 v hv hp2 o2 => ?_⟩⟩
    obtain ⟨sg, rfl, hl, hq⟩ := sg_pick hv
    have off2 := (Off.of (a := p) s0).trans o2
    clear hv h0 s0 n0 o2
    dsimp only [gName]
    refine ⟨_, rfl, by show 0 ≤ sizeLine; decide, fun e1 m1 => ?_⟩
    have s1 := same_upd (o := .lst []) m1
    have h1 := upd_same (H := H2) (a := e1) (o := .lst [])
    generalize upd H2 e1 (.lst []) = Ga at *
    refine ⟨by show 0 ≤ sizeLine; decide, fun e2 m2 => ?_⟩
    have s2 := same_upd (o := .tup []) m2
    have h2 := upd_same (H := Ga) (a := e2) (o := .tup [])
    have h1 := s2 _ _ h1
    generalize upd Ga e2 (.tup []) = Gb at *
    intro e3 m3
    have s3 := same_upd (o := .dK []) m3
    have h3 := upd_same (H := Gb) (a := e3) (o := .dK [])
    have h1 := s3 _ _ h1
    have h2 := s3 _ _ h2
    generalize upd Gb e3 (.dK []) = Gc at *
    intro e4 m4
    have s4 := same_upd (o := .dK []) m4
    have h4 := upd_same (H := Gc) (a := e4) (o := .dK [])
    have h1 := s4 _ _ h1
    have h2 := s4 _ _ h2
    have h3 := s4 _ _ h3
    generalize upd Gc e4 (.dK []) = Gd at *
    refine ⟨by show 1 ≤ sizeLine; decide, fun e5 m5 => ?_⟩
    have s5 := same_upd (o := .lst [V.ref e4]) m5
    have h5 := upd_same (H := Gd) (a := e5) (o := .lst [V.ref e4])
    have h1 := s5 _ _ h1
    have h2 := s5 _ _ h2
    have h3 := s5 _ _ h3
    have h4 := s5 _ _ h4
    generalize upd Gd e5 (.lst [V.ref e4]) = Ge at *
    intro e6 m6
    have n16 := ne_of_none h1 m6
    have n26 := ne_of_none h2 m6
    have n36 := ne_of_none h3 m6
    have n46 := ne_of_none h4 m6
    have n56 := ne_of_none h5 m6
    have s6 := same_upd (o := .dK []) m6
    have h6 := upd_same (H := Ge) (a := e6) (o := .dK [])
    have h1 := s6 _ _ h1
    have h2 := s6 _ _ h2
    have h3 := s6 _ _ h3
    have h4 := s6 _ _ h4
    have h5 := s6 _ _ h5
    generalize upd Ge e6 (.dK []) = Gf at *
    refine ⟨by show 1 ≤ sizeLine; decide, fun e7 m7 => ?_⟩
    have n76 := (ne_of_none h6 m7).symm
    have s7 := same_upd (o := .lst [V.str ""]) m7
    have h7 := upd_same (H := Gf) (a := e7) (o := .lst [V.str ""])
    have h1 := s7 _ _ h1
    have h2 := s7 _ _ h2
    have h3 := s7 _ _ h3
    have h4 := s7 _ _ h4
    have h5 := s7 _ _ h5
    have h6 := s7 _ _ h6
    generalize upd Gf e7 (.lst [V.str ""]) = Gg at *
    refine ⟨h6, [((Sum.inr "" : Key), .ref e7)], rfl, by simp, ?_⟩
    rw [show mergeK [] [((Sum.inr "" : Key), V.ref e7)] = [((Sum.inr "" : Key), V.ref e7)] from merge_nodup [((Sum.inr "" : Key), V.ref e7)] [] (by simp)]
    have o26 : Off p H2 (upd Gg e6 (.dK [((Sum.inr "" : Key), .ref e7)])) := fun b o e n => by
      have hb : Ge b = some o := s5 _ _ (s4 _ _ (s3 _ _ (s2 _ _ (s1 _ _ e))))
      rw [upd_ne (ne_of_none hb m6)]
      exact s7 _ _ (s6 _ _ hb)
    have hp6 : Pot (upd Gg e6 (.dK [((Sum.inr "" : Key), .ref e7)])) p := by
      have hpe := (((((hp2.same s1).same s2).same s3).same s4).same s5)
      exact ((hpe.same s6).same s7).up (hpe.ne m6)
    have h1 : upd Gg e6 (.dK [((Sum.inr "" : Key), .ref e7)]) e1 = _ := (upd_ne n16).trans h1
    have h2 : upd Gg e6 (.dK [((Sum.inr "" : Key), .ref e7)]) e2 = _ := (upd_ne n26).trans h2
    have h3 : upd Gg e6 (.dK [((Sum.inr "" : Key), .ref e7)]) e3 = _ := (upd_ne n36).trans h3
    have h4 : upd Gg e6 (.dK [((Sum.inr "" : Key), .ref e7)]) e4 = _ := (upd_ne n46).trans h4
    have h5 : upd Gg e6 (.dK [((Sum.inr "" : Key), .ref e7)]) e5 = _ := (upd_ne n56).trans h5
    have h7 : upd Gg e6 (.dK [((Sum.inr "" : Key), .ref e7)]) e7 = _ := (upd_ne n76).trans h7
    have h6 := upd_same (H := Gg) (a := e6) (o := .dK [((Sum.inr "" : Key), .ref e7)])
    generalize upd Gg e6 (.dK [((Sum.inr "" : Key), .ref e7)]) = Gh at *
    clear m1 m2 m3 m4 m5 m6 m7 s1 s2 s3 s4 s5 s6 s7 n16 n26 n36 n46 n56 n76
    intro e8 m8
    have n18 := ne_of_none h1 m8
    have n28 := ne_of_none h2 m8
    have n38 := ne_of_none h3 m8
    have n48 := ne_of_none h4 m8
    have n58 := ne_of_none h5 m8
    have n68 := ne_of_none h6 m8
    have n78 := ne_of_none h7 m8
    have s8 := same_upd (o := .dK []) m8
    have h8 := upd_same (H := Gh) (a := e8) (o := .dK [])
    have h1 := s8 _ _ h1
    have h2 := s8 _ _ h2
    have h3 := s8 _ _ h3
    have h4 := s8 _ _ h4
    have h5 := s8 _ _ h5
    have h6 := s8 _ _ h6
    have h7 := s8 _ _ h7
    generalize upd Gh e8 (.dK []) = Gi at *
    refine ⟨_, rfl, _, rfl, by show 1 ≤ sizeLine; decide, fun e9 m9 => ?_⟩
    have n98 := (ne_of_none h8 m9).symm
    have s9 := same_upd (o := .lst [tx sg]) m9
    have h9 := upd_same (H := Gi) (a := e9) (o := .lst [tx sg])
    have h1 := s9 _ _ h1
    have h2 := s9 _ _ h2
    have h3 := s9 _ _ h3
    have h4 := s9 _ _ h4
    have h5 := s9 _ _ h5
    have h6 := s9 _ _ h6
    have h7 := s9 _ _ h7
    have h8 := s9 _ _ h8
    generalize upd Gi e9 (.lst [tx sg]) = Gj at *
    refine ⟨h8, [((Sum.inr (tS sg) : Key), .ref e9)], rfl, by simp, ?_⟩
    rw [show mergeK [] [((Sum.inr (tS sg) : Key), V.ref e9)] = [((Sum.inr (tS sg) : Key), V.ref e9)] from merge_nodup [((Sum.inr (tS sg) : Key), V.ref e9)] [] (by simp)]
    have o28 : Off p H2 (upd Gj e8 (.dK [((Sum.inr (tS sg) : Key), .ref e9)])) := fun b o e n => by
      have hb := o26 _ _ e n
      rw [upd_ne (ne_of_none hb m8)]
      exact s9 _ _ (s8 _ _ hb)
    have hp8 : Pot (upd Gj e8 (.dK [((Sum.inr (tS sg) : Key), .ref e9)])) p := ((hp6.same s8).same s9).up (hp6.ne m8)
    have h1 : upd Gj e8 (.dK [((Sum.inr (tS sg) : Key), .ref e9)]) e1 = _ := (upd_ne n18).trans h1
    have h2 : upd Gj e8 (.dK [((Sum.inr (tS sg) : Key), .ref e9)]) e2 = _ := (upd_ne n28).trans h2
    have h3 : upd Gj e8 (.dK [((Sum.inr (tS sg) : Key), .ref e9)]) e3 = _ := (upd_ne n38).trans h3
    have h4 : upd Gj e8 (.dK [((Sum.inr (tS sg) : Key), .ref e9)]) e4 = _ := (upd_ne n48).trans h4
    have h5 : upd Gj e8 (.dK [((Sum.inr (tS sg) : Key), .ref e9)]) e5 = _ := (upd_ne n58).trans h5
    have h6 : upd Gj e8 (.dK [((Sum.inr (tS sg) : Key), .ref e9)]) e6 = _ := (upd_ne n68).trans h6
    have h7 : upd Gj e8 (.dK [((Sum.inr (tS sg) : Key), .ref e9)]) e7 = _ := (upd_ne n78).trans h7
    have h9 : upd Gj e8 (.dK [((Sum.inr (tS sg) : Key), .ref e9)]) e9 = _ := (upd_ne n98).trans h9
    have h8 := upd_same (H := Gj) (a := e8) (o := .dK [((Sum.inr (tS sg) : Key), .ref e9)])
    generalize upd Gj e8 (.dK [((Sum.inr (tS sg) : Key), .ref e9)]) = Gk at *
    clear m8 m9 s8 s9 n18 n28 n38 n48 n58 n68 n78 n98 o26 hp6
    have hT := things_base (P := P) (w := w) (K := K) hl h1 h2 h3 h4 h5 h7 h6 h9 h8
    refine ⟨by show 11 ≤ sizeLine; decide, fun Lv nLv => ?_⟩
    have sL := same_upd (o := .lst [.non, .int 0, .bl true, V.str "", tx sg, .ref e1, .ref e2, .ref e3, .ref e5, .ref e6, .ref e8]) nLv
    have hLv := upd_same (H := Gk) (a := Lv) (o := .lst [.non, .int 0, .bl true, V.str "", tx sg, .ref e1, .ref e2, .ref e3, .ref e5, .ref e6, .ref e8])
    have hpL := hp8.same sL
    have hLp := (hp8.ne nLv).symm
    have offL := off2.trans (o28.trans (Off.of sL))
    have hTL : Things P w K (dd (upd Gk Lv (.lst [.non, .int 0, .bl true, V.str "", tx sg, .ref e1, .ref e2, .ref e3, .ref e5, .ref e6, .ref e8])) p Lv) [.non, .int 0, .bl true, V.str "", tx sg, .ref e1, .ref e2, .ref e3, .ref e5, .ref e6, .ref e8] := by
      rw [dd_upd]
      have hpk := hp8
      have ne : ∀ {b : Addr} {o : HO}, Gk b = some o → (∀ x y : Int, o ≠ .lst [.int x, .int y]) → b ≠ p := fun {b o} e n z => by
        obtain ⟨x, y, e2, _⟩ := hpk
        rw [z, e2] at e
        exact n x y (Option.some.inj e).symm
      have nl : ∀ {b : Addr} {o : HO}, Gk b = some o → b ≠ Lv := fun e => ne_of_none e nLv
      refine things_base hl (dd_new h1 (ne h1 ?_) (nl h1)) (dd_new h2 (ne h2 ?_) (nl h2)) (dd_new h3 (ne h3 ?_) (nl h3)) (dd_new h4 (ne h4 ?_) (nl h4)) (dd_new h5 (ne h5 ?_) (nl h5)) (dd_new h7 (ne h7 ?_) (nl h7)) (dd_new h6 (ne h6 ?_) (nl h6)) (dd_new h9 (ne h9 ?_) (nl h9)) (dd_new h8 (ne h8 ?_) (nl h8)) <;> (intro x y e; cases e)
    generalize upd Gk Lv (.lst [.non, .int 0, .bl true, V.str "", tx sg, .ref e1, .ref e2, .ref e3, .ref e5, .ref e6, .ref e8]) = H3 at *
    have nLv0 : H Lv = none := (off2.trans o28).free nLv hp8
    clear h1 h2 h3 h4 h5 h6 h7 h8 h9 hT sL nLv hp8 o28 off2 hp2
    obtain ⟨vs0, hvs0⟩ : ∃ vs0, vs0 = [.non, .int 0, .bl true, V.str "", tx sg, .ref e1, .ref e2, .ref e3, .ref e5, .ref e6, .ref e8] := ⟨_, rfl⟩
    rw [← hvs0] at hTL hLv
    have hvl : vs0.length = 11 := by rw [hvs0]; rfl
    clear hvs0
    dsimp only [gName]
    refine ⟨_, rfl, by decide, by decide, ?_⟩
    refine for_it walk_range (fun i σ H' => ∃ t3, σ = [some (.ref p), some (tx sg), some (.ref Lv), t3, none, none, none] ∧ Pot H' p ∧ Off p H H' ∧ ∃ vs, H' Lv = some (.lst vs) ∧ vs.length = 11 + i ∧ Things P w K (dd H' p Lv) vs ∧
        (0 < i → ∃ vs' v kd, vs = vs' ++ [v] ∧ DpM P w K (dd H' p Lv) v (.dict kd) ∧ GoodK kd))
      ⟨none, rfl, hpL, offL, vs0, hLv, hvl, hTL, fun z => absurd z (by decide)⟩ (fun _ _ _ _ _ => trivial) (fun i x σ H4 H4' hi pp y => ?_) (fun σ H4 pp => ?_)
    · obtain ⟨t3, rfl, hp4, off4, vs, hv4, hlen, hTh, _⟩ := pp
      obtain ⟨rfl, rfl⟩ := y
      refine ⟨_, rfl, .inl ⟨rfl, _, .inl (.inl hv4)⟩, _, rfl, _, rfl, _, rfl, _, rfl, p, sg, rfl, hp4, hl, fun H5 d od tp L hp5 o5 nd hLine hHL => ?_⟩
      refine ⟨p, d, sg, od, tp, L, H4', rfl, hp5, hp4, o5, hLine, hHL, hl, hq, fun H6 v kd hp6 o6 hv hk => ?_⟩
      have o46 := o5.trans o6
      have hv6 := o46 _ _ hv4 hLp
      have hi12 : i < 12 := hi
      refine ⟨Lv, _, _, rfl, rfl, hv6, Nat.lt_of_lt_of_le (by omega : vs.length < 1001) (sz (by omega)), ?_⟩
      have hvd : DpM P w K (dd H6 p Lv) v (.dict kd) := dpm_same hv (nw_del2 hp4 hv4)
      refine ⟨_, rfl, hp6.up hLp.symm, (off4.trans o46).up nLv0, vs ++ [v], upd_same, by rw [List.length_append, hlen]; rfl, ?_, fun _ => ⟨vs, v, kd, rfl, ?_, hk⟩⟩
      · rw [dd_upd]
        exact (hTh.same (dd_off o46)).snoc hvd hk.good
      · rw [dd_upd]
        exact hvd
    obtain ⟨t3, rfl, hp4, off4, vs, hv4, hlen, hTh, hlast⟩ := pp
    obtain ⟨vs', v, kd, rfl, hv, hk⟩ := hlast (by decide)
    clear hTL hLv hvl hpL offL
    obtain ⟨b, es, ds, rfl, m, hD, ekd⟩ := hv.dict
    refine ⟨_, rfl, .inl ⟨rfl, _, .inl (.inl hv4)⟩, _, rfl, 1, rfl, Lv, _, -1, .ref b, rfl, rfl, .inl (.inl hv4), atI_last _ _, ?_⟩
    refine ⟨b, es, rfl, (m.same dd_le).at, fun H5 l1 ts s5 nl1 nts l1ts hl1 hts off5 => ?_⟩
    have hlv5 := s5 _ _ hv4
    refine ⟨Lv, _, _, rfl, rfl, hlv5, Nat.lt_of_lt_of_le (by omega : (vs' ++ [V.ref b]).length < 1001) (sz (by omega)), ?_⟩
    have hp5 := hp4.same s5
    have fresh : ∀ {t : Addr}, H4 t = none → t ≠ p ∧ t ≠ Lv := fun {t} e => ⟨(hp4.ne e).symm, fun z => by rw [z, hv4] at e; cases e⟩
    have sd := dd_off (a := p) (l := Lv) (Off.of s5)
    have hitems : DpM P w K (dd (upd H5 Lv (.lst ((vs' ++ [V.ref b]) ++ [V.ref l1]))) p Lv) (.ref l1) (.list (kd.map fun p => PyData.tuple [p.1, p.2])) := by
      rw [dd_upd, ekd]
      obtain ⟨f1, f2⟩ := fresh nl1
      refine .data (.lst (.inl (.inl (dd_new hl1 f1 f2))) (items_dp ?_ (fun x hx => Dp.same sd (m.2 x hx).1) (dpDs_ext (LamX.ExtN.of sd) hD)))
      have go : ∀ {ts : List Addr} {ps : List (V × V)}, (∀ t ∈ ts, H4 t = none) → Paired (fun (t : Addr) (q : V × V) => H5 t = some (.tup [q.1, q.2])) ts ps → Paired (fun (t : Addr) (q : V × V) => dd H5 p Lv t = some (.tup [q.1, q.2])) ts ps := by
        intro ts ps hn h
        induction h with
        | nil => exact .nil
        | @cons t q ts ps h1 _ ih =>
          obtain ⟨g1, g2⟩ := fresh (hn t List.mem_cons_self)
          exact .cons (dd_new h1 g1 g2) (ih fun t' ht => hn t' (List.mem_cons_of_mem _ ht))
      exact go nts hts
    have hT9 : Things P w K (dd (upd H5 Lv (.lst ((vs' ++ [V.ref b]) ++ [V.ref l1]))) p Lv) ((vs' ++ [V.ref b]) ++ [V.ref l1]) := by
      refine Things.snoc ?_ hitems (items_good hk)
      rw [dd_upd]
      exact hTh.same sd
    have hLv9 := upd_same (H := H5) (a := Lv) (o := .lst ((vs' ++ [V.ref b]) ++ [V.ref l1]))
    have off9 : Off p H (upd H5 Lv (.lst ((vs' ++ [V.ref b]) ++ [V.ref l1]))) := (off4.trans (Off.of s5)).up nLv0
    generalize upd H5 Lv (.lst ((vs' ++ [V.ref b]) ++ [V.ref l1])) = H9 at *
    have hlen9 : ((vs' ++ [V.ref b]) ++ [V.ref l1]).length = 24 := by rw [List.length_append, hlen]; rfl
    generalize (vs' ++ [V.ref b]) ++ [V.ref l1] = vs at *
    clear hitems sd fresh hp5 hlv5 off5 hts hl1 l1ts nts nl1 s5 hD m hv hlast hTh hv4 off4 hp4 ekd hk
    -- all are asked
    refine ⟨_, rfl, Lv, rfl, ⟨_, .inl (.inl hLv9)⟩, ?_⟩
    refine for_it (walk_list (xs := vs)) (fun i σ H' => ∃ t4 t5 t6, σ = [some (.ref p), some (tx sg), some (.ref Lv), t3, t4, t5, t6] ∧ Same H9 H')
      ⟨none, none, none, rfl, Same.refl _⟩ (fun _ _ _ _ pp => by obtain ⟨_, _, _, _, pp⟩ := pp; exact .inl (.inl (pp _ _ hLv9))) (fun i v σ H5 H5' hi pp y => ?_) (fun σ H5 pp => ?_)
    · obtain ⟨t4, t5, t6, rfl, s5⟩ := pp
      obtain ⟨rfl, hy⟩ := y
      obtain ⟨x, hx9, hg⟩ := hT9 v (List.mem_of_getElem? hy)
      have hx := dpm_same hx9 (dd_le.trans s5)
      dsimp only [gName]
      have fit := hg.sh.fits
      have dep : x.depth ≤ 50 := Nat.le_trans hg.sh.p (by decide)
      refine ⟨_, rfl, v, x, rfl, hx, hg.sh.s, fit, dep, _, rfl, _, rfl, sg, v, x, rfl, hx, hg, hl, fun H6 s6 => ⟨_, _, rfl, ?_⟩⟩
      have hx6 := dpm_same hx s6
      refine ⟨_, rfl, _, rfl, sg, v, x, rfl, hx6, hg.short, hl, fun H7 s7 => ?_⟩
      have hx7 := dpm_same hx6 s7
      refine ⟨_, rfl, _, rfl, sg, v, x, rfl, hx7, hg.short, hl, fun H8 s8 => ?_⟩
      have hx8 := dpm_same hx7 s8
      generalize lineD sg x = bb at *
      refine ⟨by show 2 ≤ sizeLine; decide, fun l1 n1 => ?_⟩
      have t1 := same_upd (o := .lst [V.bl bb, V.bl bb]) n1
      have h1 := upd_same (H := H8) (a := l1) (o := .lst [V.bl bb, V.bl bb])
      generalize upd H8 l1 (.lst [V.bl bb, V.bl bb]) = Ha at *
      refine ⟨.ref l1, .list [.bool bb, .bool bb], rfl, .data (.lst (.inl (.inl h1)) (.cons (.bl _) (.cons (.bl _) .nil))), by cases bb <;> decide +kernel, by cases bb <;> decide +kernel, by cases bb <;> decide +kernel, ?_⟩
      refine ⟨_, rfl, by show 1 ≤ sizeLine; decide, fun l2 n2 => ?_⟩
      have t2 := same_upd (o := .lst [V.bl bb]) n2
      have h2 := upd_same (H := Ha) (a := l2) (o := .lst [V.bl bb])
      generalize upd Ha l2 (.lst [V.bl bb]) = Hb at *
      refine ⟨l2, 2, _, rfl, rfl, h2, by decide, by decide, by show 1 * 2 ≤ sizeLine; decide, fun l3 n3 => ?_⟩
      have t3' := same_upd (o := .lst (List.replicate (2 : Int).toNat [V.bl bb]).flatten) n3
      have h3 : upd Hb l3 (.lst (List.replicate (2 : Int).toNat [V.bl bb]).flatten) l3 = some (.lst [V.bl bb, V.bl bb]) := upd_same
      generalize upd Hb l3 (.lst (List.replicate (2 : Int).toNat [V.bl bb]).flatten) = Hc at *
      refine ⟨.ref l3, .list [.bool bb, .bool bb], rfl, .data (.lst (.inl (.inl h3)) (.cons (.bl _) (.cons (.bl _) .nil))), by cases bb <;> decide +kernel, by cases bb <;> decide +kernel, by cases bb <;> decide +kernel, ?_⟩
      refine ⟨rfl, _, rfl, ite_f (by simp) ?_⟩
      dsimp only [tNext]
      have sA := s8.trans (t1.trans (t2.trans t3'))
      have hxc := dpm_same hx7 sA
      refine ⟨_, rfl, v, x, rfl, hxc, hg.sh.s, fit, dep, _, rfl, rfl, _, rfl, ite_f (by simp) ?_⟩
      exact ⟨_, _, _, rfl, s5.trans (s6.trans (s7.trans sA))⟩
    obtain ⟨t4, t5, t6, rfl, s5⟩ := pp
    exact q _ (off9.trans (Off.of s5))
end
end Lw
namespace Lw
open PySem PySem.Spec PyProof.Rows L3
open L2 hiding del del_same del_ne
section
variable {P : Program} {w : World} {K : PySem.W.Frag} {mg : Str → Option Value} {base : Heap}
theorem sq_off {a p : Addr} {xs : List V} {H H3 H' : Hp} (h : SqL K H a xs) (n : H p = none) (s : Same H H3) (o : Off p H3 H') : SqL K H' a xs := by
  rcases h with (h | ⟨o', h⟩) | h
  · exact .inl (.inl (o _ _ (s _ _ h) (ne_of_none h n)))
  · exact .inl (.inr ⟨o', o _ _ (s _ _ h) (ne_of_none h n)⟩)
  · exact .inr h
def spLaw (K : PySem.W.Frag) : Sp := fun vs H Q _ => ∃ (a : Addr) (ns : List Int), vs = [.ref a] ∧ SqL K H a (ns.map V.int) ∧ ∀ H', Q (.bl true) H'
theorem ok_law (T : All K mg) : FnOkG P w K mg base CX0 15 T.f_law T.d_law ["_law_script"] (spLaw K) := by
  refine okG T.law.F sc_law (fun vs H Q E h => ?_) (fun cdv A outer s H vs Q E hr hG h => ?_)
  · obtain ⟨a, ns, rfl, _⟩ := h
    rfl
  · obtain ⟨a, ns, rfl, hS, q⟩ := h
    refine ⟨_, pss_one (ps_ret (pe_callB (cr_all rfl) (by rfl) T.b_all PyProof.Rows.boot_all (pa_cons (pe_lc (own := [("_law_k", 1)]) (g := gName 1) (tt := tYes) rfl sc_law.nd (pi_range1 rfl T.b_range (pa_cons (pe_callB (call_max2 rfl) (by rfl) T.b_max PyProof.Rows.boot_max (pa_cons pe_int (pa_cons (pe_callB (call_min2 rfl) (by rfl) T.b_min PyProof.Rows.boot_min (pa_cons pe_int (pa_cons (pe_callB call_len_seq (by rfl) T.b_len PySem.boot_len (pa_cons (pv 0) pa_nil)) pa_nil))) pa_nil))) pa_nil))
          (blkOk_by (own := [("_law_k", 1)]) (N := ["_law_script", "_law_k"]) (sc := defScope s_law) (by decide +kernel))
          (fun _ _ _ _ _ => pg_name (i := 1) sc_law.nd rfl (by first | exact Or.inl rfl | exact Or.inr rfl)) (fun _ _ _ _ _ => pts_nil)
          (fun _ _ _ _ _ => (pe_callG (ok_law_right T) (hr.mono (by decide)) hG (by rfl) T.law_right.g T.law_right.F.kp T.law_right.b pass0 (pa_cons (pe_call (ok_law_pot T) (hr.mono (by decide)) (by rfl) T.law_pot.g T.law_pot.F.kp T.law_pot.b .nil pass0 (pa_cons (pv 0) (pa_cons (pv 1) pa_nil))) pa_nil)))) pa_nil))), ?_⟩
    refine ⟨_, rfl, a, _, rfl, .inl hS, _, _, rfl, _, _, rfl, ?_⟩
    refine ⟨_, rfl, ?_, ?_, fun D nD => ?_⟩
    · split <;> split <;> omega
    · split <;> split <;> omega
    have hn : ((if (if ((ns.map V.int).length : Int) < 4 then ((ns.map V.int).length : Int) else 4) > 1 then (if ((ns.map V.int).length : Int) < 4 then ((ns.map V.int).length : Int) else 4) else 1) : Int).toNat ≤ 4 := by
      split <;> split <;> omega
    have hAD : (∀ H', SqL K H' a (ns.map V.int)) ∨ a ≠ D := by
      rcases hS with (h | ⟨o', h⟩) | h
      · exact .inr (ne_of_none h nD)
      · exact .inr (ne_of_none h nD)
      · exact .inl fun H' => .inr h
    refine lc_gen2 walk_range (fun H' => SqL K H' a (ns.map V.int)) (fun i acc => acc = List.replicate i (.bl true)) ?_ (fun i acc e => by rw [e]; simp) rfl
      (sq_new hS nD) (fun H' acc acc' hD r => hAD.elim (fun h => h _) (fun n => sq_put r n)) (fun _ _ => trivial) (fun i x H7 H8 acc C N hi r hD ha y c n => ?_) (fun H7 xs r hD ha => ?_)
    · rw [sizeLine_eq]
      exact Nat.le_trans hn (by decide)
    · obtain ⟨rfl, rfl⟩ := y
      have hi2 : i < 4 := Nat.lt_of_lt_of_le hi hn
      refine ⟨rfl, yes_te ?_⟩
      refine ⟨_, rfl, _, rfl, a, ns, i, congrArg (fun z => [V.ref a, V.int z]) (Int.zero_add _), r, by omega, fun H9 p s9 n9 hp9 => ?_⟩
      refine ⟨p, rfl, hp9, fun H10 o10 => ?_⟩
      refine c _ _ (sq_off r n9 s9 o10) (o10 _ _ (s9 _ _ hD) (ne_of_none hD n9)) ?_
      rw [ha, List.replicate_succ']
    · subst ha
      refine ⟨D, List.replicate _ true, rfl, .inl (.inl (by rw [hD, List.map_replicate])), ?_⟩
      rw [all_id_rep]
      exact q _
theorem fin {P : Program} {w : World} {K : PySem.W.Frag} {mg mb : Str → Option Value} {fa fl a : Addr} {s₁ : Shared} {vs : List Value} {ns : List Int}
    (KX : K.In s₁.heap) (hns : s₁.heap.Ns mainGlobals mg) (hb : s₁.heap.Ns builtinsNs mb) (hbb : ∀ x : Str, x ≠ "__name__" → mb x = bootBuiltins x) (hlim : s₁.heap.NoLimit) (hg : s₁.gens = #[])
    (hbm : ∃ (bm : Addr) (ob : Obj), mg "__builtins__" = some (.ref bm) ∧ bm ≠ builtinsNs ∧ s₁.heap.get? bm = some ob ∧ ob.cls = .type "module" ∧ ob.dict = some builtinsNs ∧ ob.data = .plain)
    (ha : s₁.heap.get? a = some { cls := .type "list", data := .seq vs.toArray }) (hi : IntsAre vs ns) (hl : ns.length ≤ sizeLine) (hmg : mg "law" = some (.ref fa))
    (hall : ∃ T : All K mg, T.f_law = fl) :
    codeAny (model P w) callerA (.call (.ref fa) ⟨[.ref a], []⟩) (fun r s' => r = .ok (.ret (.bool true)) ∧ OldK s₁.heap s'.heap ∧ s'.os = s₁.os ∧ AllBare s'.gens) s₁ := by
  obtain ⟨T, _⟩ := hall
  have e : T.f_law = fa := by
    have h := T.law.g
    rw [hmg] at h
    exact (Value.ref.inj (Option.some.inj h)).symm
  rw [← e]
  refine law_callG (cs := []) (k := 15) (sp := spLaw K) KX hns hb hbb hlim hg (fun p hp => nomatch hp) (fun p hp => nomatch hp) (fun p hp => nomatch hp) hbm ha hi hl ⟨rfl, by decide, by decide⟩ (fun base hK hM TB => ok_law T) T.law.b (fun H hH hS => ?_)
  exact ⟨a, ns, rfl, hS, fun H' => rfl⟩
end
end Lw
namespace Lw
open PySem PySem.Spec PyProof.Rows L2 L3
theorem all_mk {K : PySem.W.Frag} {h : Heap} {mg : Str → Option Value} (X : K.In h) (G : h.Ns mainGlobals mg)
    {f_is_list : Addr} {oc_is_list kV_is_list dc_is_list pm_is_list cd_is_list ct_is_list : Value} {od_is_list an_is_list : Option Addr} {sl_is_list : Array (Option Value)}
    (a_is_list : PySem.W.nsIn K mainGlobals "is_list" = some (some (.ref f_is_list))) (l_is_list : K.lookup f_is_list = some ⟨oc_is_list, od_is_list, .func (PySem.W.fnOf "is_list" "is_list" (defArgs s_is_list) (defBody s_is_list) (defScope s_is_list) .none kV_is_list dc_is_list pm_is_list an_is_list cd_is_list ct_is_list), sl_is_list⟩) (e_is_list : PySem.W.codeIn K cd_is_list "is_list" = true) (k_is_list : PySem.W.keepIn K (.ref f_is_list) = true)
    {f_is_text : Addr} {oc_is_text kV_is_text dc_is_text pm_is_text cd_is_text ct_is_text : Value} {od_is_text an_is_text : Option Addr} {sl_is_text : Array (Option Value)}
    (a_is_text : PySem.W.nsIn K mainGlobals "is_text" = some (some (.ref f_is_text))) (l_is_text : K.lookup f_is_text = some ⟨oc_is_text, od_is_text, .func (PySem.W.fnOf "is_text" "is_text" (defArgs s_is_text) (defBody s_is_text) (defScope s_is_text) .none kV_is_text dc_is_text pm_is_text an_is_text cd_is_text ct_is_text), sl_is_text⟩) (e_is_text : PySem.W.codeIn K cd_is_text "is_text" = true) (k_is_text : PySem.W.keepIn K (.ref f_is_text) = true)
    {f_are_letters : Addr} {oc_are_letters kV_are_letters dc_are_letters pm_are_letters cd_are_letters ct_are_letters : Value} {od_are_letters an_are_letters : Option Addr} {sl_are_letters : Array (Option Value)}
    (a_are_letters : PySem.W.nsIn K mainGlobals "are_letters" = some (some (.ref f_are_letters))) (l_are_letters : K.lookup f_are_letters = some ⟨oc_are_letters, od_are_letters, .func (PySem.W.fnOf "are_letters" "are_letters" (defArgs s_are_letters) (defBody s_are_letters) (defScope s_are_letters) .none kV_are_letters dc_are_letters pm_are_letters an_are_letters cd_are_letters ct_are_letters), sl_are_letters⟩) (e_are_letters : PySem.W.codeIn K cd_are_letters "are_letters" = true) (k_are_letters : PySem.W.keepIn K (.ref f_are_letters) = true)
    {f_is_text_over : Addr} {oc_is_text_over kV_is_text_over dc_is_text_over pm_is_text_over cd_is_text_over ct_is_text_over : Value} {od_is_text_over an_is_text_over : Option Addr} {sl_is_text_over : Array (Option Value)}
    (a_is_text_over : PySem.W.nsIn K mainGlobals "is_text_over" = some (some (.ref f_is_text_over))) (l_is_text_over : K.lookup f_is_text_over = some ⟨oc_is_text_over, od_is_text_over, .func (PySem.W.fnOf "is_text_over" "is_text_over" (defArgs s_is_text_over) (defBody s_is_text_over) (defScope s_is_text_over) .none kV_is_text_over dc_is_text_over pm_is_text_over an_is_text_over cd_is_text_over ct_is_text_over), sl_is_text_over⟩) (e_is_text_over : PySem.W.codeIn K cd_is_text_over "is_text_over" = true) (k_is_text_over : PySem.W.keepIn K (.ref f_is_text_over) = true)
    {f_are_hearings : Addr} {oc_are_hearings kV_are_hearings dc_are_hearings pm_are_hearings cd_are_hearings ct_are_hearings : Value} {od_are_hearings an_are_hearings : Option Addr} {sl_are_hearings : Array (Option Value)}
    (a_are_hearings : PySem.W.nsIn K mainGlobals "are_hearings" = some (some (.ref f_are_hearings))) (l_are_hearings : K.lookup f_are_hearings = some ⟨oc_are_hearings, od_are_hearings, .func (PySem.W.fnOf "are_hearings" "are_hearings" (defArgs s_are_hearings) (defBody s_are_hearings) (defScope s_are_hearings) .none kV_are_hearings dc_are_hearings pm_are_hearings an_are_hearings cd_are_hearings ct_are_hearings), sl_are_hearings⟩) (e_are_hearings : PySem.W.codeIn K cd_are_hearings "are_hearings" = true) (k_are_hearings : PySem.W.keepIn K (.ref f_are_hearings) = true)
    {f_is_line_over : Addr} {oc_is_line_over kV_is_line_over dc_is_line_over pm_is_line_over cd_is_line_over ct_is_line_over : Value} {od_is_line_over an_is_line_over : Option Addr} {sl_is_line_over : Array (Option Value)}
    (a_is_line_over : PySem.W.nsIn K mainGlobals "is_line_over" = some (some (.ref f_is_line_over))) (l_is_line_over : K.lookup f_is_line_over = some ⟨oc_is_line_over, od_is_line_over, .func (PySem.W.fnOf "is_line_over" "is_line_over" (defArgs s_is_line_over) (defBody s_is_line_over) (defScope s_is_line_over) .none kV_is_line_over dc_is_line_over pm_is_line_over an_is_line_over cd_is_line_over ct_is_line_over), sl_is_line_over⟩) (e_is_line_over : PySem.W.codeIn K cd_is_line_over "is_line_over" = true) (k_is_line_over : PySem.W.keepIn K (.ref f_is_line_over) = true)
    {f_is_line : Addr} {oc_is_line kV_is_line dc_is_line pm_is_line cd_is_line ct_is_line : Value} {od_is_line an_is_line : Option Addr} {sl_is_line : Array (Option Value)}
    (a_is_line : PySem.W.nsIn K mainGlobals "is_line" = some (some (.ref f_is_line))) (l_is_line : K.lookup f_is_line = some ⟨oc_is_line, od_is_line, .func (PySem.W.fnOf "is_line" "is_line" (defArgs s_is_line) (defBody s_is_line) (defScope s_is_line) .none kV_is_line dc_is_line pm_is_line an_is_line cd_is_line ct_is_line), sl_is_line⟩) (e_is_line : PySem.W.codeIn K cd_is_line "is_line" = true) (k_is_line : PySem.W.keepIn K (.ref f_is_line) = true)
    {f_law_pot : Addr} {oc_law_pot kV_law_pot dc_law_pot pm_law_pot cd_law_pot ct_law_pot : Value} {od_law_pot an_law_pot : Option Addr} {sl_law_pot : Array (Option Value)}
    (a_law_pot : PySem.W.nsIn K mainGlobals "_law_pot" = some (some (.ref f_law_pot))) (l_law_pot : K.lookup f_law_pot = some ⟨oc_law_pot, od_law_pot, .func (PySem.W.fnOf "_law_pot" "_law_pot" (defArgs s_law_pot) (defBody s_law_pot) (defScope s_law_pot) .none kV_law_pot dc_law_pot pm_law_pot an_law_pot cd_law_pot ct_law_pot), sl_law_pot⟩) (e_law_pot : PySem.W.codeIn K cd_law_pot "_law_pot" = true) (k_law_pot : PySem.W.keepIn K (.ref f_law_pot) = true)
    {f_law_draw : Addr} {oc_law_draw kV_law_draw dc_law_draw pm_law_draw cd_law_draw ct_law_draw : Value} {od_law_draw an_law_draw : Option Addr} {sl_law_draw : Array (Option Value)}
    (a_law_draw : PySem.W.nsIn K mainGlobals "_law_draw" = some (some (.ref f_law_draw))) (l_law_draw : K.lookup f_law_draw = some ⟨oc_law_draw, od_law_draw, .func (PySem.W.fnOf "_law_draw" "_law_draw" (defArgs s_law_draw) (defBody s_law_draw) (defScope s_law_draw) .none kV_law_draw dc_law_draw pm_law_draw an_law_draw cd_law_draw ct_law_draw), sl_law_draw⟩) (e_law_draw : PySem.W.codeIn K cd_law_draw "_law_draw" = true) (k_law_draw : PySem.W.keepIn K (.ref f_law_draw) = true)
    {f_law_pick : Addr} {oc_law_pick kV_law_pick dc_law_pick pm_law_pick cd_law_pick ct_law_pick : Value} {od_law_pick an_law_pick : Option Addr} {sl_law_pick : Array (Option Value)}
    (a_law_pick : PySem.W.nsIn K mainGlobals "_law_pick" = some (some (.ref f_law_pick))) (l_law_pick : K.lookup f_law_pick = some ⟨oc_law_pick, od_law_pick, .func (PySem.W.fnOf "_law_pick" "_law_pick" (defArgs s_law_pick) (defBody s_law_pick) (defScope s_law_pick) .none kV_law_pick dc_law_pick pm_law_pick an_law_pick cd_law_pick ct_law_pick), sl_law_pick⟩) (e_law_pick : PySem.W.codeIn K cd_law_pick "_law_pick" = true) (k_law_pick : PySem.W.keepIn K (.ref f_law_pick) = true)
    {f_law_mixed : Addr} {oc_law_mixed kV_law_mixed dc_law_mixed pm_law_mixed cd_law_mixed ct_law_mixed : Value} {od_law_mixed an_law_mixed : Option Addr} {sl_law_mixed : Array (Option Value)}
    (a_law_mixed : PySem.W.nsIn K mainGlobals "_law_mixed" = some (some (.ref f_law_mixed))) (l_law_mixed : K.lookup f_law_mixed = some ⟨oc_law_mixed, od_law_mixed, .func (PySem.W.fnOf "_law_mixed" "_law_mixed" (defArgs s_law_mixed) (defBody s_law_mixed) (defScope s_law_mixed) .none kV_law_mixed dc_law_mixed pm_law_mixed an_law_mixed cd_law_mixed ct_law_mixed), sl_law_mixed⟩) (e_law_mixed : PySem.W.codeIn K cd_law_mixed "_law_mixed" = true) (k_law_mixed : PySem.W.keepIn K (.ref f_law_mixed) = true)
    {f_law_mixed_line : Addr} {oc_law_mixed_line kV_law_mixed_line dc_law_mixed_line pm_law_mixed_line cd_law_mixed_line ct_law_mixed_line : Value} {od_law_mixed_line an_law_mixed_line : Option Addr} {sl_law_mixed_line : Array (Option Value)}
    (a_law_mixed_line : PySem.W.nsIn K mainGlobals "_law_mixed_line" = some (some (.ref f_law_mixed_line))) (l_law_mixed_line : K.lookup f_law_mixed_line = some ⟨oc_law_mixed_line, od_law_mixed_line, .func (PySem.W.fnOf "_law_mixed_line" "_law_mixed_line" (defArgs s_law_mixed_line) (defBody s_law_mixed_line) (defScope s_law_mixed_line) .none kV_law_mixed_line dc_law_mixed_line pm_law_mixed_line an_law_mixed_line cd_law_mixed_line ct_law_mixed_line), sl_law_mixed_line⟩) (e_law_mixed_line : PySem.W.codeIn K cd_law_mixed_line "_law_mixed_line" = true) (k_law_mixed_line : PySem.W.keepIn K (.ref f_law_mixed_line) = true)
    {f_law_line : Addr} {oc_law_line kV_law_line dc_law_line pm_law_line cd_law_line ct_law_line : Value} {od_law_line an_law_line : Option Addr} {sl_law_line : Array (Option Value)}
    (a_law_line : PySem.W.nsIn K mainGlobals "_law_line" = some (some (.ref f_law_line))) (l_law_line : K.lookup f_law_line = some ⟨oc_law_line, od_law_line, .func (PySem.W.fnOf "_law_line" "_law_line" (defArgs s_law_line) (defBody s_law_line) (defScope s_law_line) .none kV_law_line dc_law_line pm_law_line an_law_line cd_law_line ct_law_line), sl_law_line⟩) (e_law_line : PySem.W.codeIn K cd_law_line "_law_line" = true) (k_law_line : PySem.W.keepIn K (.ref f_law_line) = true)
    {f_law_is_hearing : Addr} {oc_law_is_hearing kV_law_is_hearing dc_law_is_hearing pm_law_is_hearing cd_law_is_hearing ct_law_is_hearing : Value} {od_law_is_hearing an_law_is_hearing : Option Addr} {sl_law_is_hearing : Array (Option Value)}
    (a_law_is_hearing : PySem.W.nsIn K mainGlobals "_law_is_hearing" = some (some (.ref f_law_is_hearing))) (l_law_is_hearing : K.lookup f_law_is_hearing = some ⟨oc_law_is_hearing, od_law_is_hearing, .func (PySem.W.fnOf "_law_is_hearing" "_law_is_hearing" (defArgs s_law_is_hearing) (defBody s_law_is_hearing) (defScope s_law_is_hearing) .none kV_law_is_hearing dc_law_is_hearing pm_law_is_hearing an_law_is_hearing cd_law_is_hearing ct_law_is_hearing), sl_law_is_hearing⟩) (e_law_is_hearing : PySem.W.codeIn K cd_law_is_hearing "_law_is_hearing" = true) (k_law_is_hearing : PySem.W.keepIn K (.ref f_law_is_hearing) = true)
    {f_law_is_due : Addr} {oc_law_is_due kV_law_is_due dc_law_is_due pm_law_is_due cd_law_is_due ct_law_is_due : Value} {od_law_is_due an_law_is_due : Option Addr} {sl_law_is_due : Array (Option Value)}
    (a_law_is_due : PySem.W.nsIn K mainGlobals "_law_is_due" = some (some (.ref f_law_is_due))) (l_law_is_due : K.lookup f_law_is_due = some ⟨oc_law_is_due, od_law_is_due, .func (PySem.W.fnOf "_law_is_due" "_law_is_due" (defArgs s_law_is_due) (defBody s_law_is_due) (defScope s_law_is_due) .none kV_law_is_due dc_law_is_due pm_law_is_due an_law_is_due cd_law_is_due ct_law_is_due), sl_law_is_due⟩) (e_law_is_due : PySem.W.codeIn K cd_law_is_due "_law_is_due" = true) (k_law_is_due : PySem.W.keepIn K (.ref f_law_is_due) = true)
    {f_law_other : Addr} {oc_law_other kV_law_other dc_law_other pm_law_other cd_law_other ct_law_other : Value} {od_law_other an_law_other : Option Addr} {sl_law_other : Array (Option Value)}
    (a_law_other : PySem.W.nsIn K mainGlobals "_law_other" = some (some (.ref f_law_other))) (l_law_other : K.lookup f_law_other = some ⟨oc_law_other, od_law_other, .func (PySem.W.fnOf "_law_other" "_law_other" (defArgs s_law_other) (defBody s_law_other) (defScope s_law_other) .none kV_law_other dc_law_other pm_law_other an_law_other cd_law_other ct_law_other), sl_law_other⟩) (e_law_other : PySem.W.codeIn K cd_law_other "_law_other" = true) (k_law_other : PySem.W.keepIn K (.ref f_law_other) = true)
    {f_law_right : Addr} {oc_law_right kV_law_right dc_law_right pm_law_right cd_law_right ct_law_right : Value} {od_law_right an_law_right : Option Addr} {sl_law_right : Array (Option Value)}
    (a_law_right : PySem.W.nsIn K mainGlobals "_law_right" = some (some (.ref f_law_right))) (l_law_right : K.lookup f_law_right = some ⟨oc_law_right, od_law_right, .func (PySem.W.fnOf "_law_right" "_law_right" (defArgs s_law_right) (defBody s_law_right) (defScope s_law_right) .none kV_law_right dc_law_right pm_law_right an_law_right cd_law_right ct_law_right), sl_law_right⟩) (e_law_right : PySem.W.codeIn K cd_law_right "_law_right" = true) (k_law_right : PySem.W.keepIn K (.ref f_law_right) = true)
    {f_law : Addr} {oc_law kV_law dc_law pm_law cd_law ct_law : Value} {od_law an_law : Option Addr} {sl_law : Array (Option Value)}
    (a_law : PySem.W.nsIn K mainGlobals "law" = some (some (.ref f_law))) (l_law : K.lookup f_law = some ⟨oc_law, od_law, .func (PySem.W.fnOf "law" "law" (defArgs s_law) (defBody s_law) (defScope s_law) .none kV_law dc_law pm_law an_law cd_law ct_law), sl_law⟩) (e_law : PySem.W.codeIn K cd_law "law" = true) (k_law : PySem.W.keepIn K (.ref f_law) = true)
    (z_abs : PySem.W.nsIn K mainGlobals "abs" = some none)
    (z_all : PySem.W.nsIn K mainGlobals "all" = some none)
    (z_dict : PySem.W.nsIn K mainGlobals "dict" = some none)
    (z_divmod : PySem.W.nsIn K mainGlobals "divmod" = some none)
    (z_int : PySem.W.nsIn K mainGlobals "int" = some none)
    (z_isinstance : PySem.W.nsIn K mainGlobals "isinstance" = some none)
    (z_len : PySem.W.nsIn K mainGlobals "len" = some none)
    (z_list : PySem.W.nsIn K mainGlobals "list" = some none)
    (z_max : PySem.W.nsIn K mainGlobals "max" = some none)
    (z_min : PySem.W.nsIn K mainGlobals "min" = some none)
    (z_range : PySem.W.nsIn K mainGlobals "range" = some none)
    (z_repr : PySem.W.nsIn K mainGlobals "repr" = some none)
    (z_set : PySem.W.nsIn K mainGlobals "set" = some none)
    (z_sorted : PySem.W.nsIn K mainGlobals "sorted" = some none)
    (z_str : PySem.W.nsIn K mainGlobals "str" = some none)
    (z_tuple : PySem.W.nsIn K mainGlobals "tuple" = some none)
    {t_SMALL : Tok} (y_SMALL : PySem.W.nsIn K mainGlobals "SMALL" = some (some (.str "abcdefghijklmnopqrstuvwxyz" t_SMALL)))
    {t_MOST_LETTERS : Tok} (y_MOST_LETTERS : PySem.W.nsIn K mainGlobals "MOST_LETTERS" = some (some (.int 3 t_MOST_LETTERS)))
    : ∃ T : All K mg, T.f_law = f_law := by
  have F_is_list := fun_mk (st := s_is_list) l_is_list e_is_list k_is_list
  have B_is_list := F_is_list.binds (ps := ["value"]) fun _ _ _ _ _ _ us hl => match us, hl with | [_], _ => rfl
  have F_is_text := fun_mk (st := s_is_text) l_is_text e_is_text k_is_text
  have B_is_text := F_is_text.binds (ps := ["value"]) fun _ _ _ _ _ _ us hl => match us, hl with | [_], _ => rfl
  have F_are_letters := fun_mk (st := s_are_letters) l_are_letters e_are_letters k_are_letters
  have B_are_letters := F_are_letters.binds (ps := ["value"]) fun _ _ _ _ _ _ us hl => match us, hl with | [_], _ => rfl
  have F_is_text_over := fun_mk (st := s_is_text_over) l_is_text_over e_is_text_over k_is_text_over
  have B_is_text_over := F_is_text_over.binds (ps := ["letters", "value"]) fun _ _ _ _ _ _ us hl => match us, hl with | [_, _], _ => rfl
  have F_are_hearings := fun_mk (st := s_are_hearings) l_are_hearings e_are_hearings k_are_hearings
  have B_are_hearings := F_are_hearings.binds (ps := ["letters", "value"]) fun _ _ _ _ _ _ us hl => match us, hl with | [_, _], _ => rfl
  have F_is_line_over := fun_mk (st := s_is_line_over) l_is_line_over e_is_line_over k_is_line_over
  have B_is_line_over := F_is_line_over.binds (ps := ["letters", "value"]) fun _ _ _ _ _ _ us hl => match us, hl with | [_, _], _ => rfl
  have F_is_line := fun_mk (st := s_is_line) l_is_line e_is_line k_is_line
  have B_is_line := F_is_line.binds (ps := ["letters", "value"]) fun _ _ _ _ _ _ us hl => match us, hl with | [_, _], _ => rfl
  have F_law_pot := fun_mk (st := s_law_pot) l_law_pot e_law_pot k_law_pot
  have B_law_pot := F_law_pot.binds (ps := ["_law_script", "_law_k"]) fun _ _ _ _ _ _ us hl => match us, hl with | [_, _], _ => rfl
  have F_law_draw := fun_mk (st := s_law_draw) l_law_draw e_law_draw k_law_draw
  have B_law_draw := F_law_draw.binds (ps := ["_law_pot_here", "_law_size"]) fun _ _ _ _ _ _ us hl => match us, hl with | [_, _], _ => rfl
  have F_law_pick := fun_mk (st := s_law_pick) l_law_pick e_law_pick k_law_pick
  have B_law_pick := F_law_pick.binds (ps := ["_law_pot_here", "_law_some"]) fun _ _ _ _ _ _ us hl => match us, hl with | [_, _], _ => rfl
  have F_law_mixed := fun_mk (st := s_law_mixed) l_law_mixed e_law_mixed k_law_mixed
  have B_law_mixed := F_law_mixed.binds (ps := ["_law_pot_here", "_law_some"]) fun _ _ _ _ _ _ us hl => match us, hl with | [_, _], _ => rfl
  have F_law_mixed_line := fun_mk (st := s_law_mixed_line) l_law_mixed_line e_law_mixed_line k_law_mixed_line
  have B_law_mixed_line := F_law_mixed_line.binds (ps := ["_law_pot_here", "_law_signs", "_law_line_here"]) fun _ _ _ _ _ _ us hl => match us, hl with | [_, _, _], _ => rfl
  have F_law_line := fun_mk (st := s_law_line) l_law_line e_law_line k_law_line
  have B_law_line := F_law_line.binds (ps := ["_law_pot_here", "_law_signs"]) fun _ _ _ _ _ _ us hl => match us, hl with | [_, _], _ => rfl
  have F_law_is_hearing := fun_mk (st := s_law_is_hearing) l_law_is_hearing e_law_is_hearing k_law_is_hearing
  have B_law_is_hearing := F_law_is_hearing.binds (ps := ["_law_signs", "_law_thing"]) fun _ _ _ _ _ _ us hl => match us, hl with | [_, _], _ => rfl
  have F_law_is_due := fun_mk (st := s_law_is_due) l_law_is_due e_law_is_due k_law_is_due
  have B_law_is_due := F_law_is_due.binds (ps := ["_law_signs", "_law_thing"]) fun _ _ _ _ _ _ us hl => match us, hl with | [_, _], _ => rfl
  have F_law_other := fun_mk (st := s_law_other) l_law_other e_law_other k_law_other
  have B_law_other := F_law_other.binds (ps := ["_law_pot_here", "_law_signs", "_law_line_here"]) fun _ _ _ _ _ _ us hl => match us, hl with | [_, _, _], _ => rfl
  have F_law_right := fun_mk (st := s_law_right) l_law_right e_law_right k_law_right
  have B_law_right := F_law_right.binds (ps := ["_law_pot_here"]) fun _ _ _ _ _ _ us hl => match us, hl with | [_], _ => rfl
  have F_law := fun_mk (st := s_law) l_law e_law k_law
  have B_law := F_law.binds (ps := ["_law_script"]) fun _ _ _ _ _ _ us hl => match us, hl with | [_], _ => rfl
  exact ⟨⟨_, _, ⟨F_is_list, B_is_list, PySem.W.mg_of X G a_is_list⟩,
    _, _, ⟨F_is_text, B_is_text, PySem.W.mg_of X G a_is_text⟩,
    _, _, ⟨F_are_letters, B_are_letters, PySem.W.mg_of X G a_are_letters⟩,
    _, _, ⟨F_is_text_over, B_is_text_over, PySem.W.mg_of X G a_is_text_over⟩,
    _, _, ⟨F_are_hearings, B_are_hearings, PySem.W.mg_of X G a_are_hearings⟩,
    _, _, ⟨F_is_line_over, B_is_line_over, PySem.W.mg_of X G a_is_line_over⟩,
    _, _, ⟨F_is_line, B_is_line, PySem.W.mg_of X G a_is_line⟩,
    _, _, ⟨F_law_pot, B_law_pot, PySem.W.mg_of X G a_law_pot⟩,
    _, _, ⟨F_law_draw, B_law_draw, PySem.W.mg_of X G a_law_draw⟩,
    _, _, ⟨F_law_pick, B_law_pick, PySem.W.mg_of X G a_law_pick⟩,
    _, _, ⟨F_law_mixed, B_law_mixed, PySem.W.mg_of X G a_law_mixed⟩,
    _, _, ⟨F_law_mixed_line, B_law_mixed_line, PySem.W.mg_of X G a_law_mixed_line⟩,
    _, _, ⟨F_law_line, B_law_line, PySem.W.mg_of X G a_law_line⟩,
    _, _, ⟨F_law_is_hearing, B_law_is_hearing, PySem.W.mg_of X G a_law_is_hearing⟩,
    _, _, ⟨F_law_is_due, B_law_is_due, PySem.W.mg_of X G a_law_is_due⟩,
    _, _, ⟨F_law_other, B_law_other, PySem.W.mg_of X G a_law_other⟩,
    _, _, ⟨F_law_right, B_law_right, PySem.W.mg_of X G a_law_right⟩,
    _, _, ⟨F_law, B_law, PySem.W.mg_of X G a_law⟩,
    PySem.W.mg_none_of X G z_abs,
    PySem.W.mg_none_of X G z_all,
    PySem.W.mg_none_of X G z_dict,
    PySem.W.mg_none_of X G z_divmod,
    PySem.W.mg_none_of X G z_int,
    PySem.W.mg_none_of X G z_isinstance,
    PySem.W.mg_none_of X G z_len,
    PySem.W.mg_none_of X G z_list,
    PySem.W.mg_none_of X G z_max,
    PySem.W.mg_none_of X G z_min,
    PySem.W.mg_none_of X G z_range,
    PySem.W.mg_none_of X G z_repr,
    PySem.W.mg_none_of X G z_set,
    PySem.W.mg_none_of X G z_sorted,
    PySem.W.mg_none_of X G z_str,
    PySem.W.mg_none_of X G z_tuple,
    ⟨_, PySem.W.mg_of X G y_SMALL⟩,
    ⟨_, PySem.W.mg_of X G y_MOST_LETTERS⟩⟩, rfl⟩
end Lw
open PySem PySem.W PyProof.Rows
set_option maxRecDepth 100000 in
set_option maxHeartbeats 0 in
theorem PySem.Challenge.cw_missedparts_k81_lines_as_values_holds : PySem.Challenge.rw_missedparts_k81_lines_as_values.Holds :=
  Lw.hd (by
  k_fill
  refine Att.attach_callB rfl rfl fun w s₀ s₁ mg mb fa o pm cd doc a vs ns G Y ho hd hcd hmg hobj hints hlen hbits hg => ?_
  have KX := PySem.W.kIn_of Y
  have GG := G.T.g
  refine' Lw.fin KX GG G.T.b G.T.builtins G.T.nolimit hg G.T.bmain hobj hints (Nat.le_trans hlen (by decide)) hmg (Lw.all_mk KX GG ?a_is_list ?l_is_list ?e_is_list ?k_is_list ?a_is_text ?l_is_text ?e_is_text ?k_is_text ?a_are_letters ?l_are_letters ?e_are_letters ?k_are_letters ?a_is_text_over ?l_is_text_over ?e_is_text_over ?k_is_text_over ?a_are_hearings ?l_are_hearings ?e_are_hearings ?k_are_hearings ?a_is_line_over ?l_is_line_over ?e_is_line_over ?k_is_line_over ?a_is_line ?l_is_line ?e_is_line ?k_is_line ?a_law_pot ?l_law_pot ?e_law_pot ?k_law_pot ?a_law_draw ?l_law_draw ?e_law_draw ?k_law_draw ?a_law_pick ?l_law_pick ?e_law_pick ?k_law_pick ?a_law_mixed ?l_law_mixed ?e_law_mixed ?k_law_mixed ?a_law_mixed_line ?l_law_mixed_line ?e_law_mixed_line ?k_law_mixed_line ?a_law_line ?l_law_line ?e_law_line ?k_law_line ?a_law_is_hearing ?l_law_is_hearing ?e_law_is_hearing ?k_law_is_hearing ?a_law_is_due ?l_law_is_due ?e_law_is_due ?k_law_is_due ?a_law_other ?l_law_other ?e_law_other ?k_law_other ?a_law_right ?l_law_right ?e_law_right ?k_law_right ?a_law ?l_law ?e_law ?k_law ?z_abs ?z_all ?z_dict ?z_divmod ?z_int ?z_isinstance ?z_len ?z_list ?z_max ?z_min ?z_range ?z_repr ?z_set ?z_sorted ?z_str ?z_tuple ?y_SMALL ?y_MOST_LETTERS)
  (case a_is_list => k_is); (case l_is_list => k_is); (case e_is_list => k_is); (case k_is_list => k_is); (case a_is_text => k_is); (case l_is_text => k_is); (case e_is_text => k_is); (case k_is_text => k_is); (case a_are_letters => k_is); (case l_are_letters => k_is); (case e_are_letters => k_is); (case k_are_letters => k_is); (case a_is_text_over => k_is); (case l_is_text_over => k_is); (case e_is_text_over => k_is); (case k_is_text_over => k_is); (case a_are_hearings => k_is); (case l_are_hearings => k_is); (case e_are_hearings => k_is); (case k_are_hearings => k_is); (case a_is_line_over => k_is); (case l_is_line_over => k_is); (case e_is_line_over => k_is); (case k_is_line_over => k_is); (case a_is_line => k_is); (case l_is_line => k_is); (case e_is_line => k_is); (case k_is_line => k_is); (case a_law_pot => k_is); (case l_law_pot => k_is); (case e_law_pot => k_is); (case k_law_pot => k_is); (case a_law_draw => k_is); (case l_law_draw => k_is); (case e_law_draw => k_is); (case k_law_draw => k_is); (case a_law_pick => k_is); (case l_law_pick => k_is); (case e_law_pick => k_is); (case k_law_pick => k_is); (case a_law_mixed => k_is); (case l_law_mixed => k_is); (case e_law_mixed => k_is); (case k_law_mixed => k_is); (case a_law_mixed_line => k_is); (case l_law_mixed_line => k_is); (case e_law_mixed_line => k_is); (case k_law_mixed_line => k_is); (case a_law_line => k_is); (case l_law_line => k_is); (case e_law_line => k_is); (case k_law_line => k_is); (case a_law_is_hearing => k_is); (case l_law_is_hearing => k_is); (case e_law_is_hearing => k_is); (case k_law_is_hearing => k_is); (case a_law_is_due => k_is); (case l_law_is_due => k_is); (case e_law_is_due => k_is); (case k_law_is_due => k_is); (case a_law_other => k_is); (case l_law_other => k_is); (case e_law_other => k_is); (case k_law_other => k_is); (case a_law_right => k_is); (case l_law_right => k_is); (case e_law_right => k_is); (case k_law_right => k_is); (case a_law => k_is); (case l_law => k_is); (case e_law => k_is); (case k_law => k_is); (case z_abs => k_is); (case z_all => k_is); (case z_dict => k_is); (case z_divmod => k_is); (case z_int => k_is); (case z_isinstance => k_is); (case z_len => k_is); (case z_list => k_is); (case z_max => k_is); (case z_min => k_is); (case z_range => k_is); (case z_repr => k_is); (case z_set => k_is); (case z_sorted => k_is); (case z_str => k_is); (case z_tuple => k_is); (case y_SMALL => k_is); (case y_MOST_LETTERS => k_is)
  )
