import PyProof.Rows.All
import KE.OsRunLaw
import KE.KNestM
import PySem.Challenge.RW_missedparts_k10_errors_by_families
import Wide.All
import OpenK.AllK
import Wide.FinOn
import HandS.ForMost
import HandS.SortKw
import HandS.EndTab
import HandS.IsInst
import HandS.StrMore
import HandS.TupLe
import HandS.WideBits
import HandS.Walk
import HandS.Deep
import HandS.ListItems
import HandS.Conv
import HandS.More
import PyProof.ReprRoads
import KE.SortKeyHeap
import KE.KDictCopyH
import PyProof.ReprLen
import KE.DataMinKey
import HandS.Set
import HandS.Strs
import HandS.Property
import HandS.OwnEq
import HandS.FStr
import OpenK.KOps
import OpenK.KMeth
import KE.GoesZip
import KE.GoesMore
import KE.GoesEnum
import KE.KIsAll
import HandS.Replace
import HandS.ClsMeth
import PyProof.StrLawsFirst
import HandS.MakeKwOnly
import KE.KOpsOwn
import HandS.Exc
import HandS.ExcInit
import KE.KExcSuper
import KE.KEqNest
import PyProof.ReprReads
import HandS.TryOnly
import HandS.ExcOwn
import HandS.WordsExc
import HandS.ExcField
import HandS.ExcIs
import PyProof.ExcBaseAll.ValueError
import PyProof.ExcBaseAll.RuntimeError
import PyProof.ExcBaseAll.ArithmeticError
import HandS.TryMany
import HandS.SetBool
import HandS.TupSets
import HandS.Lambda
import HandS.Nested
set_option Elab.async false
set_option linter.all false
set_option maxRecDepth 100000
set_option maxHeartbeats 4000000
namespace L3
open PySem PySem.W PySem.Calls PyProof.Rows HeadRun

/-- a program without some of its top's statements -/
def dropAt (is : List Nat) : Nat → List Stmt → List Stmt
  | _, [] => []
  | n, s :: r => match is.contains n with
    | true => dropAt is (n + 1) r
    | false => s :: dropAt is (n + 1) r
def viewAt (p : Program) (is : List Nat) : Program := { p with main := { p.main with body := dropAt is 0 p.main.body } }

/-- what a hook with tables looks at, off the tree -/
def kmOb (as ts : List Addr) (s : SharedT) : List (Option Obj) × List (Option Obj) := (as.map (getT s), ts.map (getT s))
theorem kmOb_ok {K : Params → Frag} {as : List Addr} {e : ∀ P, as = (K P).map (·.1)} {ts : List Addr} (s : SharedT) : kmOb as ts s = (kmHook K as e ts).obs s.abs :=
  Prod.ext (List.map_congr_left fun a _ => getT_eq s a) (List.map_congr_left fun a _ => getT_eq s a)
/-- what a hook looks at, off the tree -/
def kOb (as : List Addr) (s : SharedT) : List (Option Obj) := as.map (getT s)
theorem kOb_ok {K : Params → Frag} {as : List Addr} {e : ∀ P, as = (K P).map (·.1)} (s : SharedT) : kOb as s = (kHook K as e).obs s.abs := List.map_congr_left fun a _ => getT_eq s a

theorem map_three {α β γ δ : Type} {o : Option α} {f : α → β} {g : α → γ} {h : α → δ} {b : β} {c : γ} {d : δ}
    (x : o.map f = some b) (y : o.map g = some c) (z : o.map h = some d) : o.map (fun s => (f s, g s, h s)) = some (b, c, d) := by
  cases o with
  | none => cases x
  | some s => cases x; cases y; cases z; rfl

/-- the state behind the top -/
noncomputable abbrev endOf (p : Program) (M : Nat) (w : World) (os : OsState) : Option SharedT := endF (stepQ (denQ tabQ) p w) M p w os

/-- the head by three runs, each checked apart -/
theorem head3 {r : OpenRow} {p q : Program} {H : Hook} {ob : SharedT → H.α} {M : Nat} {loose : List PySem.Str} {d : DefRec} {kwd : List (PySem.Str × PySem.Expr)} (hr : r.prog = p) (hrec : r.toRowW.records = [])
    (ho : ∀ s : SharedT, ob s = H.obs s.abs)
    (e : opening p = plainProg p.main.scope.names) (f : ∀ s, fenceModules? p s = some s)
    (rA : ∀ w os, (endOf p M w os).map (fun s => looksF p (boot_heap w.params) s.abs) = some true)
    (rB : ∀ w os, (endOf p M w os).map (fun s => seenQ q loose (importedModules p.main.body) (fun s => xlAt q [] s && recOk [] s) s.abs) = some (openGood q loose))
    (rC : ∀ w os, (endOf p M w os).map ob = some (H.val w))
    (hdef : defOf q r.name = some (d, kwd)) (hp : r.prog.theDef r.name = some (d.params, d.body, d.scope)) (hk : kwWritten? d.params.kwonlyargs d.params.kw_defaults = some kwd)
    (hwr : (!r.writes || r.records.isEmpty) = true) (k1 : r.wellSaid = true) (ok : (chainsOk q && opensWell r.prog && (frees r.toRowW && r.within.isEmpty)) = true) (hb : r.prog.bare) (hw : r.toRowW.promised)
    (call : WalkO q loose (XL q []) H.says r.toRowW d kwd fun f vs => PySem.call f vs) : r.Holds := by
  subst hr
  refine head_any (M := M) (ob := ob) ho e f (fun w os => ?_) hdef hp hk hwr k1 ok hb hw call
  have z := map_three (rA w os) (rB w os) (rC w os)
  rw [hrec]
  exact z
theorem map_pair {α β γ : Type} {o : Option α} {f : α → β × γ} {b : β} {c : γ} (x : o.map (fun s => (f s).1) = some b) (y : o.map (fun s => (f s).2) = some c) : o.map f = some (b, c) := by
  cases o with
  | none => cases x
  | some s =>
    have x' : (f s).1 = b := Option.some.inj x
    have y' : (f s).2 = c := Option.some.inj y
    exact congrArg some (Prod.ext x' y')
theorem map_l {α β γ : Type} {o : Option α} {f : α → β} {g : α → γ} {b : β} {c : γ} (x : o.map (fun s => (f s, g s)) = some (b, c)) : o.map f = some b := by
  cases o with
  | none => cases x
  | some s => exact congrArg some (Prod.mk.inj (Option.some.inj x)).1
theorem map_r {α β γ : Type} {o : Option α} {f : α → β} {g : α → γ} {b : β} {c : γ} (x : o.map (fun s => (f s, g s)) = some (b, c)) : o.map g = some c := by
  cases o with
  | none => cases x
  | some s => exact congrArg some (Prod.mk.inj (Option.some.inj x)).2

/-- the looks at the view, one of them -/
noncomputable abbrev seenAt (p q : Program) (l : List PySem.Str) (s : SharedT) := seenQ q l (importedModules p.main.body) (fun s => xlAt q [] s && recOk [] s) s.abs
end L3
namespace Lw
open PySem PySem.W PyProof.Rows HeadRun L3
noncomputable abbrev pz : Program := PySem.Challenge.pw_missedparts_k10_errors_by_families
noncomputable def qz : Program := viewAt pz [0, 29]
def lz : List PySem.Str := []
theorem hdA : ∀ w os, (endOf pz 15510 w os).map (fun s => (looksF pz (boot_heap w.params) s.abs, (seenAt pz qz lz s).2.2.2.2.2.2.2.1)) = some (true, (wideGood qz)) := by
  intro w os; kernel_rfl
theorem hdB1 : ∀ w os, (endOf pz 15510 w os).map (fun s => (seenAt pz qz lz s).1) = some (expectedOf qz) := by
  intro w os; kernel_rfl
theorem hdB3 : ∀ w os, (endOf pz 15510 w os).map (fun s => (seenAt pz qz lz s).2.2.1) = some true := by
  intro w os; kernel_rfl
theorem hdB4 : ∀ w os, (endOf pz 15510 w os).map (fun s => (seenAt pz qz lz s).2.2.2.1) = some true := by
  intro w os; kernel_rfl
theorem hdB6 : ∀ w os, (endOf pz 15510 w os).map (fun s => (seenAt pz qz lz s).2.2.2.2.2.1) = some (plainGoodE qz (looseW qz lz)) := by
  intro w os; kernel_rfl
theorem hdB : ∀ w os, (endOf pz 15510 w os).map (fun s => ((seenAt pz qz lz s).2.1, ((seenAt pz qz lz s).2.2.2.2.1, ((seenAt pz qz lz s).2.2.2.2.2.2.1, (seenAt pz qz lz s).2.2.2.2.2.2.2.2)))) = some (bltViewBooted, ((pinGoodD (drecsOf qz)), ((plainGoodD qz lz), (clsGoodW qz lz)))) := by
  intro w os; kernel_rfl
theorem hdS : ∀ w os, (endOf pz 15510 w os).map (fun s => seenAt pz qz lz s) = some (openGood qz lz) := fun w os =>
  (map_pair (hdB1 w os) (map_pair (map_l (hdB w os)) (map_pair (hdB3 w os) (map_pair (hdB4 w os) (map_pair (map_l (map_r (hdB w os))) (map_pair (hdB6 w os) (map_pair (map_l (map_r (map_r (hdB w os)))) (map_pair (map_r (hdA w os)) (map_r (map_r (map_r (hdB w os))))))))))))
local macro_rules | `(tactic| o_head ($f $k $a $e)) => `(tactic| (
  refine' head3 (p := pz) (q := qz) (loose := lz) (M := 15510) (H := $f $k $a $e) (ob := kOb $a) rfl rfl (fun s => kOb_ok s) ?e ?f (fun w os => map_l (hdA w os)) hdS ?rC (by rfl) (by rfl) (by rfl) (by rfl) (by first | assumption | decide +kernel) (by decide +kernel) ⟨rfl, rfl, rfl, rfl, rfl, by decide +kernel⟩ ?hw ?hc
  (case e => kernel_rfl)
  (case f => intro s; kernel_rfl)
  (case rC => intro w os; kernel_rfl)))
open_top hd for PySem.Challenge.rw_missedparts_k10_errors_by_families
end Lw
/-! Defs that know that no repr is under way. -/
namespace L3
open PySem PySem.Spec PyProof.Rows L2
/-- as FnOk, where no guard stands around -/
structure FnOkG (P : Program) (w : World) (K : PySem.W.Frag) (mg : Str → Option Value) (base : Heap) (CX : CXT) (k : Nat) (f : Addr) (fd : FuncData) (ps : List Str) (sp : Sp) : Prop where
  len : ∀ vs H Q E, sp vs H Q E → vs.length = ps.length
  run : ∀ (A : Around) (outer : List Env) (s : Shared) (H : Hp) (args : Args) (us : List Value) (vs : List V) (Q : VK) (E : XK), Room k A → A.guards = some [] → Env0 P w K mg base A outer s H → BindsTo s fd args (ps.zip us) → Vals vs us → sp vs H Q E →
    codeAny (model P w) A (.call (.ref f) args) (CR CX outer P w H s Q E) s
theorem FnOkG.of {P : Program} {w : World} {K : PySem.W.Frag} {mg : Str → Option Value} {base : Heap} {CX : CXT} {k : Nat} {f : Addr} {fd : FuncData} {ps : List Str} {sp : Sp} (F : FnOk P w K mg base CX k f fd ps sp) : FnOkG P w K mg base CX k f fd ps sp :=
  ⟨F.len, fun A outer s H args us vs Q E hr _ => F.run A outer s H args us vs Q E hr⟩
theorem FnOkG.mono {P : Program} {w : World} {K : PySem.W.Frag} {mg : Str → Option Value} {base : Heap} {CX : CXT} {j k : Nat} {f : Addr} {fd : FuncData} {ps : List Str} {sp : Sp} (F : FnOkG P w K mg base CX j f fd ps sp) (h : j ≤ k) : FnOkG P w K mg base CX k f fd ps sp :=
  ⟨F.len, fun A outer s H args us vs Q E hr => F.run A outer s H args us vs Q E (hr.mono h)⟩
section
variable {P : Program} {w : World} {K : PySem.W.Frag} {mg : Str → Option Value} {base : Heap}
theorem fn_ofG {CX : CXT} {k : Nat} {f : Addr} {name qual : Str} {params : Arguments} {body : List Stmt} {scope : Scope} {dV kV doc pm cdv ct oc : Value} {an od : Option Addr}
    {osl : Array (Option Value)} {N ps : List Str} {sp : Sp} (lk : K.lookup f = some ⟨oc, od, .func (PySem.W.fnOf name qual params body scope dV kV doc pm an cdv ct), osl⟩) (hcd : PySem.W.codeIn K cdv qual = true) (S : FnScope N ps scope)
    (len : ∀ vs H Q E, sp vs H Q E → vs.length = ps.length)
    (hbody : ∀ (A : Around) (outer : List Env) (s : Shared) (H : Hp) (vs : List V) (Q : VK) (E : XK), Room k (A.deeper (envOfC qual scope s.heap.objs.size f cdv)) → A.guards = some [] → sp vs H Q E →
      ∃ t, PSs (cxOf CX P w K mg base N qual scope f cdv A outer s H E) body t ∧ t { nx := fun _ H' => Q .non H', rt := Q } (L2.start N vs) H) :
    FnOkG P w K mg base CX (k + 1) f (PySem.W.fnOf name qual params body scope dV kV doc pm an cdv ct) ps sp := by
  refine ⟨len, fun A outer s H args us vs Q E hr hg e0 hb r hsp => ?_⟩
  exact LamX.run_ofS lk hcd S hr e0 hb r (len _ _ _ _ hsp) fun hr' => hbody A outer s H vs Q E hr' hg hsp
theorem okG {x qual : Str} {st : Stmt} {f : Addr} {fd : FuncData} {N ps : List Str} {k : Nat} {sp : Sp} (F : Fun K x qual st f fd) (S : FnScope N ps (defScope st)) (len : ∀ vs H Q E, sp vs H Q E → vs.length = ps.length)
    (hbody : ∀ (cdv : Value) (A : Around) (outer : List Env) (s : Shared) (H : Hp) (vs : List V) (Q : VK) (E : XK), Room k (A.deeper (envOfC qual (defScope st) s.heap.objs.size f cdv)) → A.guards = some [] → sp vs H Q E →
      ∃ t, PSs (cxOf CX0 P w K mg base N qual (defScope st) f cdv A outer s H E).nox (defBody st) t ∧ t { nx := fun _ H' => Q .non H', rt := Q } (L2.start N vs) H) : FnOkG P w K mg base CX0 (k + 1) f fd ps sp := by
  obtain ⟨oc, od, kV, doc, pm, an, cdv, ct, osl, rfl, lk, hcd⟩ := F.ex
  refine fn_ofG lk hcd S len fun A outer s H vs Q E hr hg hsp => ?_
  obtain ⟨t, h, q⟩ := hbody cdv A outer s H vs Q E hr hg hsp
  exact ⟨t, h.nox, q⟩
end
section
variable {X : Cx} {CX : CXT} {k : Nat} {f : Addr} {fd : FuncData} {ps ks : List Str} {sp : Sp} {E : XK} {x : Str} {p pos : Pos} {e : Expr} {es : List Expr} {kws : List Keyword} {t tk : TA} {g : List Value → List Value → List Value} {gV : List V → List V → List V}
theorem run_fnG {pins : List (Addr × Obj)} {σ : L2.St} {H : Hp} {s : Shared} {Q : VK} {us ws : List Value} {vs : List V} {kw : List (Str × Value)} (F : FnOkG X.prog X.w X.K X.mg X.base CX k f fd ps sp) (hr : Room k X.A) (hG : X.A.guards = some []) (hx : Passes CX X E)
    (I : Inv X pins σ H s) (hb : BindsTo s fd ⟨us, kw⟩ (ps.zip ws)) (r : Vals vs ws) (h : sp vs H Q E) : wpAny (model X.prog X.w) X.A (call (.ref f) us kw) (EP X pins σ Q) X.xe s := by
  refine wpAny_call (codeAny_mono (F.run X.A X.stack s H ⟨us, kw⟩ ws vs Q E hr hG I.env0 hb r h) fun r s' hq => ?_)
  cases r with
  | error e => exact hx pins σ H s e s' I hq
  | ok fl =>
    cases fl with
    | ret u => exact I.after hq
    | next => exact False.elim hq
    | brk => exact False.elim hq
    | cont => exact False.elim hq
/-- f(e, ..) -/
theorem pe_callG (F : FnOkG X.prog X.w X.K X.mg X.base CX k f fd ps sp) (hr : Room k X.A) (hG : X.A.guards = some []) (hg : Gl X x) (hm : X.mg x = some (.ref f)) (hk : PySem.W.keepIn X.K (.ref f) = true) (hb : L2.Binds X.K fd ps []) (hx : Passes CX X E)
    (ha : PA X (e :: es) t) (hdb : (x == ("__debug__" : Str)) = false := by decide) (he : starEach (e :: es) X.env = (false, eval e X.env) :: starEach es X.env := by rfl) (hpl : (backTo pos (starEach es X.env)).any (·.1) = false := by rfl) :
    PE X (.Call (.Name x p) (e :: es) [] pos) (tCall sp [] E t) := by
  refine ⟨fun pins s σ H Q I h => ?_⟩
  refine wpAny_Call_Name_kw (ld_glob I hg hm ?_ hdb)
  refine PySem.W.callWith_K (h₀ := X.base) I.ok.mod.kin hk (thn (ha.run pos pins s σ H _ I h) fun us s1 ⟨vs, H1, I1, r, q⟩ => ⟨I1.kIn, ?_⟩) he hpl
  have q : sp (vs ++ []) H1 Q E := q
  rw [List.append_nil] at q
  have hl : (us ++ []).length = ps.length := by rw [List.append_nil, ← r.length]; exact F.len _ _ _ _ q
  exact run_fnG F hr hG hx I1 (hb s1 us I1.kIn hl) (by rw [List.append_nil]; exact r) q
/-- f(k = v, ..), keywords alone -/
theorem pe_callK0 (F : FnOkG X.prog X.w X.K X.mg X.base CX k f fd ps sp) (hr : Room k X.A) (hG : X.A.guards = some []) (hg : Gl X x) (hm : X.mg x = some (.ref f)) (hk : PySem.W.keepIn X.K (.ref f) = true) (hb : KBinds X.K fd ps ks g gV) (hx : Passes CX X E)
    (hkw : PK X kws tk) (hall : (backToKw pos (keywordEach kws X.env)).all (·.1.isSome) = true := by rfl) (hks : (backToKw pos (keywordEach kws X.env)).filterMap (·.1) = ks := by rfl)
    (hdb : (x == ("__debug__" : Str)) = false := by decide)
    (hpl : ((backTo pos (starEach [] X.env)).any (·.1) || (backToKw pos (keywordEach kws X.env)).any (·.1.isNone)) = false := by rfl) :
    PE X (.Call (.Name x p) [] kws pos) (tCallK sp gV E tNil tk) := by
  refine ⟨fun pins s σ H Q I h => ?_⟩
  refine wpAny_Call_Name_kw (ld_glob I hg hm ?_ hdb)
  refine PySem.W.callWith_KW0 (h₀ := X.base) I.ok.mod.kin hk hall (thn (hkw.run pos pins s σ H _ I h) fun ws s2 ⟨zs, H2, I2, rz, q2⟩ => ⟨I2.kIn, ?_⟩) hpl
  rw [hks]
  have r2 := hb.rel (vs := []) (us := []) .nil rz
  have hl : (g [] ws).length = ps.length := by rw [← r2.length]; exact F.len _ _ _ _ q2
  exact run_fnG F hr hG hx I2 (hb.to s2 [] ws I2.kIn hl) r2 q2
end
end L3
/-! Rules for texts as lists of codes, repr of data, list(text), list(d.values()). -/
namespace L3
open PySem PySem.Spec PyProof.Rows L2
/-- a text by its codes -/
abbrev tS (l : List Nat) : Str := ⟨l.toArray⟩
abbrev tx (l : List Nat) : V := .str (tS l)
theorem tS_len (l : List Nat) : (tS l).length = l.length := by show l.toArray.size = _; simp
theorem tS_inj {a b : List Nat} (h : tS a = tS b) : a = b := by
  have h2 : a.toArray = b.toArray := congrArg Str.cps h
  simpa using congrArg Array.toList h2
theorem tS_eq (x : Str) : x = tS x.cps.toList := by cases x; simp [tS]
theorem tS_app (a b : List Nat) : tS a ++ tS b = tS (a ++ b) := by
  show (⟨a.toArray ++ b.toArray⟩ : Str) = _
  simp
theorem tx_inj {a b : List Nat} (h : tx a = tx b) : a = b := tS_inj (V.str.inj h)
theorem tx_dec (a b : List Nat) : decide (tx a = tx b) = decide (a = b) := by
  by_cases e : a = b
  · subst e; simp
  · rw [decide_eq_false e, decide_eq_false fun h => e (tx_inj h)]
section
variable {X : Cx}
theorem op_addT : OpR X (binaryOp .Add) (fun x y H Q => ∃ a b, x = tx a ∧ y = tx b ∧ a.length + b.length ≤ sizeLine ∧ Q (tx (a ++ b)) H) := by
  intro pins s σ H x y v u Q I rx ry h
  obtain ⟨a, b, rfl, rfl, hz, q⟩ := h
  exact op_add_str pins s σ H _ _ v u Q I rx ry ⟨_, _, rfl, rfl, by rw [tS_len, tS_len]; exact hz, by rw [tS_app]; exact q⟩
/-- a * n -/
def repL : Nat → List Nat → List Nat
  | 0, _ => []
  | n + 1, l => l ++ repL n l
theorem repL_len (n : Nat) (l : List Nat) : (repL n l).length = n * l.length := by
  induction n with
  | zero => simp [repL]
  | succ n ih => rw [repL, List.length_append, ih, Nat.succ_mul]; omega
theorem fold_rep (l : List Nat) : ∀ (n : Nat) (acc : Array Nat), (List.replicate n l.toArray).foldl (· ++ ·) acc = acc ++ (repL n l).toArray
  | 0, acc => by simp [repL]
  | n + 1, acc => by
    rw [List.replicate_succ, List.foldl_cons, fold_rep l n, repL]
    simp
theorem mul_tS (l : List Nat) (n : Nat) : Txt.mul (tS l) (n : Int) = tS (repL n l) := by
  unfold Txt.mul
  by_cases h : (n : Int) < 1
  · rw [if_pos h]
    have e : n = 0 := by omega
    subst e
    rfl
  · rw [if_neg h]
    split
    · rename_i hc
      rw [Bool.or_eq_true] at hc
      rcases hc with hc | hc
      · have e : n = 1 := by
          have := of_decide_eq_true hc
          omega
        subst e
        simp [repL]
      · have e : (tS l).length = 0 := by simpa using hc
        rw [tS_len] at e
        have e2 : l = [] := List.eq_nil_of_length_eq_zero e
        subst e2
        have : ∀ n, repL n [] = [] := fun n => by
          induction n with
          | zero => rfl
          | succ n ih => rw [repL, ih]; rfl
        rw [this]
    · rw [Int.toNat_natCast, fold_rep]
      simp
theorem op_mulT : OpR X (binaryOp .Mult) (fun x y H Q => ∃ (a : List Nat) (n : Nat), x = tx a ∧ y = .int (n : Int) ∧ n ≤ 1000000 ∧ a.length * n ≤ 1000000 ∧ Q (tx (repL n a)) H) := by
  intro pins s σ H x y v u Q I rx ry h
  obtain ⟨a, n, rfl, rfl, hn, hz, q⟩ := h
  obtain ⟨t, rfl⟩ := rx
  obtain ⟨t', rfl⟩ := ry
  have e63 : (2 : Int) ^ 63 = 9223372036854775808 := by decide
  refine SB.mul ⟨?_, fun h1 _ => ?_, fun _ _ => ?_⟩ fun t' k => ?_
  · rw [e63]
    simp only [Bool.or_eq_false_iff, decide_eq_false_iff_not]
    omega
  · rw [e63, tS_len]
    have hp : (0 : Int) < (n : Int) := by omega
    have hz2 : (a.length : Int) * (n : Int) ≤ 1000000 := by rw [← Int.natCast_mul]; exact Int.ofNat_le.mpr hz
    have h3 : (a.length : Int) ≤ (9223372036854775808 - 1) / (n : Int) := (Int.le_ediv_iff_mul_le hp).mpr (by omega)
    omega
  · rw [tS_len, Int.toNat_natCast]
    show decide (a.length * n > sizeLine) = false
    rw [sizeLine_eq]
    exact decide_eq_false (by omega)
  · rw [mul_tS]
    exact ⟨tx (repL n a), H, I.tok _, ⟨_, rfl⟩, q⟩
/-! ### slices of texts -/
theorem cut_pre (l : List Nat) (i : Nat) : cutS (tS l) none (some (i : Int)) = tS (l.take i) := by
  unfold cutS
  rw [HT.sIx_none, HT.sIx_nat, tS_len]
  show tS _ = _
  congr 1
  show (List.drop 0 l).take (min i l.length - 0) = l.take i
  rw [List.drop_zero, Nat.sub_zero]
  by_cases h : i ≤ l.length
  · rw [Nat.min_eq_left h]
  · rw [Nat.min_eq_right (by omega), List.take_of_length_le (Nat.le_refl _), List.take_of_length_le (by omega)]
theorem cut_suf (l : List Nat) (i : Nat) : cutS (tS l) (some (i : Int)) none = tS (l.drop i) := by
  unfold cutS
  rw [HT.sIx_none, HT.sIx_nat, tS_len]
  show tS _ = _
  congr 1
  show (List.drop (min i l.length) l).take (l.length - min i l.length) = l.drop i
  by_cases h : i ≤ l.length
  · rw [Nat.min_eq_left h, List.take_of_length_le (by rw [List.length_drop]; exact Nat.le_refl _)]
  · rw [Nat.min_eq_right (by omega), List.drop_of_length_le (Nat.le_refl _), List.drop_of_length_le (by omega)]
    simp
def rSlT' : V → Option Int → Option Int → Hp → VK → Prop := fun x lo hi H Q => ∃ l, x = tx l ∧ l.length ≤ sizeLine ∧
  ((lo = none ∧ ∃ i : Nat, hi = some (i : Int) ∧ Q (tx (l.take i)) H) ∨ (hi = none ∧ ∃ i : Nat, lo = some (i : Int) ∧ Q (tx (l.drop i)) H))
theorem sl_tx : SlR X rSlT' := by
  intro pins s σ H x v vl vu lo hi sl Q I rx hs pl pu h
  obtain ⟨l, rfl, hz, h⟩ := h
  refine sl_str pins s σ H _ v vl vu lo hi sl Q I rx hs pl pu ⟨_, rfl, by rw [tS_len]; exact hz, ?_⟩
  rcases h with ⟨rfl, i, rfl, q⟩ | ⟨rfl, i, rfl, q⟩
  · rw [cut_pre]; exact q
  · rw [cut_suf]; exact q
/-! ### slices of texts with a step -/
def stepL (l : List Nat) (k : Int) : List Nat := (Builtin.Str.strSliceIndices none none k l.length).filterMap (l[·]?)
theorem stepL_mem {l : List Nat} {k : Int} {c : Nat} (h : c ∈ stepL l k) : c ∈ l := by
  unfold stepL at h
  obtain ⟨i, _, e⟩ := List.mem_filterMap.mp h
  exact List.mem_of_getElem? e
theorem filterMap_len {α β : Type} (f : α → Option β) : ∀ l : List α, (l.filterMap f).length ≤ l.length
  | [] => Nat.le_refl _
  | a :: l => by
    have := filterMap_len f l
    rw [List.filterMap_cons]
    split
    · rw [List.length_cons]; omega
    · rw [List.length_cons, List.length_cons]; omega
theorem stepL_two (l : List Nat) : (stepL l 2).length ≤ l.length := by
  refine Nat.le_trans (filterMap_len _ _) ?_
  show (sliceRange 0 (l.length : Int) 2).length ≤ l.length
  unfold sliceRange
  simp only [List.length_map, List.length_range]
  rw [if_pos (by decide : (2 : Int) > 0)]
  by_cases h : (0 : Int) < (l.length : Int)
  · rw [if_pos h]
    omega
  · rw [if_neg h]
    simp
theorem stepL_rev (l : List Nat) : stepL l (-1) = l.reverse := by
  unfold stepL Builtin.Str.strSliceIndices
  show (sliceRange ((l.length : Int) - 1) (-1) (-1)).filterMap (l[·]?) = _
  rw [PySem.W.krv_sliceRange, PySem.W.krv_range, List.filterMap_reverse]
  have h := PySem.W.krv_all l.toArray
  congr 1
  have e : (fun i : Nat => l[i]?) = (fun i : Nat => l.toArray[i]?) := by
    funext i
    simp
  rw [e]
  simpa using h
def tStep (k : Int) (te : TE) : TE := fun σ H Q => te σ H fun x H1 => ∃ l, x = tx l ∧ l.length ≤ sizeLine ∧ (stepL l k).length ≤ sizeLine ∧ Q (tx (stepL l k)) H1
theorem pe_step {e st : Expr} {te ts : TE} {k : Int} {p3 pos : Pos} (he : PE X e te) (hst : PE X st ts) (hk : ∀ σ H (Q : VK), Q (.int k) H → ts σ H Q) (k1 : (k == 1) = false) (k0 : (k == 0) = false) : PE X (.Subscript e (.Slice none none (some st) p3) pos) (tStep k te) := by
  refine ⟨fun pins s σ H Q I h => ?_⟩
  refine Subscript_ (thn (he.run pins s σ H _ I h) fun v s1 ⟨x, H1, I1, r1, q1⟩ => ?_)
  obtain ⟨l, ex, hz, hz2, q⟩ := q1
  subst ex
  obtain ⟨t, rfl⟩ := r1
  have hso : PO X (some st) (tPart ts) := po_some hst
  refine wpAny_Slice (thn (po_none.run pins s1 σ H1 (fun o H2 => o = none ∧ H2 = H1) I1 ⟨rfl, rfl⟩) fun vl s2 ⟨lo, H2, I2, pl, el, e2⟩ => ?_)
  subst el e2
  refine thn (po_none.run pins s2 σ H2 (fun o H3 => o = none ∧ H3 = H2) I2 ⟨rfl, rfl⟩) fun vu s3 ⟨u, H3, I3, pu, eu, e3⟩ => ?_
  subst eu e3
  refine thn (hso.run pins s3 σ H3 (fun o H4 => o = some k ∧ H4 = H3) I3 (hk _ _ _ ⟨k, rfl, rfl, rfl⟩)) fun vs s4 ⟨o, H4, I4, ps, eo, e4⟩ => ?_
  subst eo e4
  have I5 : Inv X pins σ H4 { s4 with heap := s4.heap.push { cls := .type "slice", data := .fields #[vl, vu, vs] } } := I4.kept (t' := s4.toks) fun b ob q => Heap.get?_push_of_some _ q
  show wpAny (model X.prog X.w) X.A (subscriptTail e (.Slice none none (some st) p3) (.str (tS l) t) (.ref s4.heap.objs.size)) (EP X pins σ Q) X.xe { s4 with heap := s4.heap.push { cls := .type "slice", data := .fields #[vl, vu, vs] } }
  refine tail_any (ops := [.ref s4.heap.objs.size, .str (tS l) t]) (typeIs_str _ _ _) (F.slot_str_getitem.lookup) ?_ (by with_unfolding_all rfl)
  obtain ⟨l', rfl, e1⟩ := IsPart.raw pl
  obtain ⟨u', rfl, e2⟩ := IsPart.raw pu
  obtain ⟨k', rfl, e3⟩ := IsPart.raw ps
  have n1 : l' = none := by cases l' with | none => rfl | some a => cases e1
  have n2 : u' = none := by cases u' with | none => rfl | some a => cases e2
  subst n1 n2
  have e4 : (k'.map (·.1)).getD 1 = k := by rw [e3]; rfl
  refine wpAny_getItem_str_slice (l := none) (u := none) (st := k') ⟨_, Heap.get?_push_size _ rfl, rfl, rfl⟩ (by rw [e4]; exact k0) ?_
  have e5 : sliceMade (tS l) t none none k' = .str (tS (stepL l k)) := by
    unfold sliceMade slicePicked
    rw [e4, k1, Bool.false_and, if_neg Bool.false_ne_true]
    unfold stepL
    rw [tS_len]
    have e6 : (fun i : Nat => (tS l).cps[i]?) = (fun i : Nat => l[i]?) := by
      funext i
      simp [tS]
    show Made.str (tS (List.filterMap (fun i : Nat => (tS l).cps[i]?) _)) = _
    rw [e6]
    rfl
  rw [e5]
  exact ⟨by rw [tS_len]; exact hz2, tx (stepL l k), H4, I5.tok _, ⟨_, rfl⟩, q⟩
end
end L3
/-! repr of data, list(text), list(d.values()). -/
namespace L3
open PySem PySem.Spec PyProof.Rows L2
mutual
theorem dp_noDict {K : PySem.W.Frag} {H : Hp} : ∀ {v : V} {d : PyData}, Dp K H v d → d.hasDict = false
  | _, .none, _ => by simp only [PyData.hasDict]
  | _, .bool _, _ => by simp only [PyData.hasDict]
  | _, .int _, _ => by simp only [PyData.hasDict]
  | _, .str _, _ => by simp only [PyData.hasDict]
  | _, .list ds, h => by
    cases h with
    | lst hs ha => simp only [PyData.hasDict]; exact dpAll_noDict ha
  | _, .tuple ds, h => by
    cases h with
    | tup hs ha => simp only [PyData.hasDict]; exact dpAll_noDict ha
  | _, .dict _, h => by cases h
theorem dpAll_noDict {K : PySem.W.Frag} {H : Hp} : ∀ {vs : List V} {ds : List PyData}, DpAll K H vs ds → PyData.hasDictAll ds = false
  | _, [], _ => by simp only [PyData.hasDictAll]
  | _, d :: ds, h => by
    cases h with
    | cons h1 h2 => simp only [PyData.hasDictAll, dp_noDict h1, dpAll_noDict h2, Bool.or_self]
end
theorem len_toL (acc : Array Value) : acc.toList.length = acc.size := by simp
section
variable {X : Cx}
/-- repr(x) of data: none, bools, ints, texts, lists, tuples -/
def rRepr (K : PySem.W.Frag) : List V → Hp → VK → Prop := fun xs H Q => ∃ (x : V) (d : PyData), xs = [x] ∧ Dp K H x d ∧ d.showable = true ∧ d.shown.length ≤ sizeLine ∧ d.depth ≤ 50 ∧ Q (.str d.shown) H
theorem call_reprD {k : Nat} (hr : Room k X.A) (hG : X.A.guards = some []) : CallR X (.builtin "repr") (rRepr X.K) := by
  intro pins s σ H xs us Q I r h
  obtain ⟨x, d, rfl, hd, hs, hz, hdp, q⟩ := h
  obtain ⟨u, rfl, rx⟩ := vals1 r
  have hu := hr.units
  cases hd with
  | non => cases rx; exact P.repr_of_none ⟨.str _, H, I.tok _, ⟨_, rfl⟩, q⟩
  | bl b => cases rx; exact P.repr_of_bool ⟨.str _, H, I.tok _, ⟨_, rfl⟩, q⟩
  | int i =>
    obtain ⟨t, rfl⟩ := rx
    have hs' : i.natAbs.log2 < 1920 := by simpa [PyData.showable] using hs
    exact P.repr_of_int hs' ⟨.str _, H, I.tok _, ⟨_, rfl⟩, q⟩
  | str z =>
    obtain ⟨t, rfl⟩ := rx
    exact P.repr_of_str ⟨.str _, H, I.tok _, ⟨_, rfl⟩, q⟩ hz
  | @lst a xs ds hq ha =>
    cases rx
    obtain ⟨as, hR⟩ := Dp.reads I (.list ds) (.ref a) (.ref a) (.lst hq ha) rfl
    refine repr_of_reads' hR hs (PyData.noDict_hsm (dp_noDict (K := X.K) (H := H) (.lst hq ha))) hG (by omega) (fun _ _ e => e) (fun h' t tk hk => ?_) hz
    exact ⟨.str _, H, I.kept hk, ⟨_, rfl⟩, q⟩
  | @tup a xs ds hq ha =>
    cases rx
    obtain ⟨as, hR⟩ := Dp.reads I (.tuple ds) (.ref a) (.ref a) (.tup hq ha) rfl
    refine repr_of_reads' hR hs (PyData.noDict_hsm (dp_noDict (K := X.K) (H := H) (.tup hq ha))) hG (by omega) (fun _ _ e => e) (fun h' t tk hk => ?_) hz
    exact ⟨.str _, H, I.kept hk, ⟨_, rfl⟩, q⟩
/-- list(text) -/
theorem call_listT (hc : X.calm = true) : CallR X (.type "list") (fun xs H Q => ∃ l, xs = [tx l] ∧ l.length ≤ sizeLine ∧ ∀ p, H p = none → Q (.ref p) (upd H p (.lst (l.map fun c => tx [c])))) := by
  intro pins s σ H xs us Q I r h
  obtain ⟨l, rfl, hz, q⟩ := h
  obtain ⟨u, rfl, rx⟩ := vals1 r
  obtain ⟨t, rfl⟩ := rx
  refine call_list_str (I.ok.hd hc) (tS l) t (fun h' tk acc c hk hS hacc => ?_) (by show l.toArray.size ≤ _; simpa using hz)
  have hl : acc.size = l.length := by rw [hacc.1]; simp [tS]
  have hv : Vals (l.map fun c => tx [c]) acc.toList := vals_of_at (by rw [List.length_map, len_toL, hl]) fun j x w h1 h2 => by
    obtain ⟨c, t, e1, e2⟩ := hacc.2 j w (by rw [← Array.getElem?_toList]; exact h2)
    have e3 : l[j]? = some c := by simpa [tS] using e1
    rw [List.getElem?_map, e3] at h1
    cases h1
    subst e2
    exact ⟨t, rfl⟩
  exact ⟨.ref s.heap.objs.size, upd H s.heap.objs.size (.lst (l.map fun c => tx [c])), I.laid (t' := tk) hk (Nat.le_refl _)
    (show ObjOk X.prog X.w _ _ _ (.lst (l.map fun c => tx [c])) from ⟨by rw [List.length_map]; exact hz, acc.toList, c, hv, by rw [Array.toArray_toList]; exact hS⟩), rfl, q _ (I.hok.fresh (Nat.le_refl _))⟩
def tListVals (te : TE) : TE := fun σ H Q => te σ H fun x H1 => ∃ (d : Addr) (kvs : List (Key × V)), x = .ref d ∧ H1 d = some (.dK kvs) ∧ ∀ p, H1 p = none → Q (.ref p) (upd H1 p (.lst (kvs.map (·.2))))
/-- list(e.values()) -/
theorem pe_listVals {e : Expr} {te : TE} {p apos cpos pos : Pos} (hc : X.calm = true) (he : PE X e te) (hg : Gl X "list") (hm : X.mg "list" = none) (hv : bootBuiltins "list" = some (.type "list")) (hbase : attributeBase e "values" X.env (eval e X.env) = eval e X.env := by rfl) (hline : (apos.endLine == cpos.line) = true := by rfl)
    (hs : starEach [.Call (.Attribute e "values" apos) [] [] cpos] X.env = (false, eval (.Call (.Attribute e "values" apos) [] [] cpos) X.env) :: starEach [] X.env := by rfl) :
    PE X (.Call (.Name "list" p) [.Call (.Attribute e "values" apos) [] [] cpos] [] pos) (tListVals te) := by
  refine ⟨fun pins s σ H Q I hq => ?_⟩
  refine wpAny_Call_Name_kw (ld_blt I hg hm hv ?_)
  refine PyProof.Rows.callWith_type1 ?_ hs rfl
  rw [hs]
  show wpAny _ _ (spliced ((false, eval (.Call (.Attribute e "values" apos) [] [] cpos) X.env) :: backTo pos (starEach [] X.env))) _ _ s
  refine Calls.spliced_cons ?_
  refine wpAny_Call_method (T := "dict") (id := "dict.values") hbase rfl hline F.plainAttrs_dict F.slot_dict_values F.type_dict_values (thn (he.run pins s σ H _ I hq) fun u s1 ⟨x, H1, I1, rx, d, kvs, ex, hd, q⟩ => ?_)
  subst ex
  obtain rfl : u = Value.ref d := rx
  obtain ⟨hz, hs0, vs, kv, hdo⟩ := I1.hok d _ hd
  obtain ⟨ep, hat⟩ := hdo.dictAt
  have lk : kvs.length = vs.length := Paired.length kv
  have I2 : Inv X pins σ H1 { s1 with heap := s1.heap.push { cls := .type "dict_values", data := .fields #[.ref d] } } := I1.kept (t' := s1.toks) fun b ob q => Heap.get?_push_of_some _ q
  refine ⟨hdo.typeIs, hdo.mapOf.noDict, ?_⟩
  show wpAny _ _ (callWith cpos (.builtin "dict.values") [.ref d] [] []) _ X.xe s1
  refine method_meetsIn F.slot_dict_values F.entry_dict_values rfl (PySem.evalArgs_none ⟨rfl, hdo.typeIs, F.args_dict_values_1 _, _, meets_dict_values (mixKind X.prog X.w) d hs0, ⟨vs, hdo⟩, ?_⟩)
  refine Calls.spliced_nil ?_
  refine PySem.W.kdl_call (PySem.W.kdl_values (knd := mixKind X.prog X.w) (kvs := vs) (ep := ep) (d := d)) (I1.ok.hd hc) ⟨⟨_, Heap.get?_push_size _ rfl, rfl, rfl⟩, hat.push _⟩ (by omega) fun h' tk acc c' hk hD hacc => ?_
  have hvv : Vals (kvs.map (·.2)) acc.toList := vals_of_at (by rw [List.length_map, len_toL, hacc.1, lk]) fun j x w h1 h2 => by
    obtain ⟨k, e1⟩ := hacc.2 j w (by rw [← Array.getElem?_toList]; exact h2)
    rw [List.getElem?_map] at h1
    cases e3 : kvs[j]? with
    | none => rw [e3] at h1; cases h1
    | some kx =>
      rw [e3] at h1
      cases h1
      obtain ⟨qv, g1, g2, g3⟩ := LiI.paired_get kv e3
      rw [e1] at g1
      cases g1
      exact g3
  exact ⟨.ref _, upd H1 _ (.lst (kvs.map (·.2))), I2.laid (t' := tk) hk (Nat.le_refl _)
    (show ObjOk X.prog X.w _ _ _ (.lst (kvs.map (·.2))) from ⟨by rw [List.length_map]; exact hz, acc.toList, c', hvv, by rw [Array.toArray_toList]; exact hD⟩), rfl, q _ (I2.hok.fresh (Nat.le_refl _))⟩
end
end L3
/-! sorted(texts, key=f), f giving pairs of an int and a text. -/
namespace L3
open PySem PySem.Spec PyProof.Rows L2
/-- a key: an int and a text -/
abbrev KF := List Nat → Int × List Nat
def kD (kf : KF) (l : List Nat) : PyData := .tuple [.int (kf l).1, .str (tS (kf l).2)]
/-- the sorted list -/
def sortT (kf : KF) (ts : List (List Nat)) : List (List Nat) := ts.mergeSort (PySem.W.dataLe false (kD kf))
theorem sortT_perm (kf : KF) (ts : List (List Nat)) : (sortT kf ts).Perm ts := List.mergeSort_perm _ _
theorem kD_alike (kf : KF) (a b : List Nat) : PySem.W.alike (kD kf a) (kD kf b) = true := by simp [kD, PySem.W.alike, PySem.W.alikeAll]
section
variable {X : Cx} {pins : List (Addr × Obj)} {σ : L2.St} {H : Hp} {s : Shared}
/-- calls of f give the keys, nothing else is touched -/
def KCall (X : Cx) (pins : List (Addr × Obj)) (H0 : Hp) (f : Value) (kf : KF) : Prop := ∀ (s : Shared) (σ : L2.St) (H : Hp) (l : List Nat) (t : Tok), L2.Inv X pins σ H s → Same H0 H → l.length ≤ sizeLine →
  wpAny (model X.prog X.w) X.A.in1.in1 (call f [.str (tS l) t]) (fun u s' => ∃ p H', s'.os = s.os ∧ AllBare s'.gens ∧ Un (frs X.stack) [] H H' s.heap s'.heap ∧ HOk X.prog X.w H' s'.heap ∧ Same H H' ∧ u = .ref p ∧ H' p = some (.tup [.int (kf l).1, tx (kf l).2])) (fun _ _ => False) s
/-- an address above the heap: what Inv.turned asks -/
theorem above_ok {it : Addr} (I : L2.Inv X pins σ H s) (h : s.heap.objs.size ≤ it) : it ≠ X.env.locals ∧ (it ∈ X.ex ∨ X.s_0.heap.objs.size ≤ it) ∧ (∀ x c, X.env.cells.lookup x = some c → c ≠ it) ∧ (∀ p ∈ X.pn ++ pins, p.1 ≠ it) ∧ it ∉ frs X.stack := by
  refine ⟨fun e => ?_, .inr (Nat.le_trans I.sz h), fun x c hc e => ?_, fun p hp e => ?_, fun hb => ?_⟩
  · have := I.lt
    rw [← e] at this
    exact Nat.lt_irrefl _ (Nat.lt_of_lt_of_le this h)
  · obtain ⟨v, o, ho, _⟩ := I.cell x c hc
    have := Heap.lt_size ho
    rw [e] at this
    exact Nat.lt_irrefl _ (Nat.lt_of_lt_of_le this h)
  · have := Heap.lt_size (I.pin p hp).1
    rw [e] at this
    exact Nat.lt_irrefl _ (Nat.lt_of_lt_of_le this h)
  · rcases List.mem_cons.mp (I.stkSub _ hb) with e | e
    · have := I.lt
      rw [← e] at this
      exact Nat.lt_irrefl _ (Nat.lt_of_lt_of_le this h)
    · exact I.nofs h e
theorem each_strs : ∀ {ts : List (List Nat)} {vs : List Value}, Vals (ts.map tx) vs → PySem.W.EachIs (fun v l => ∃ t, v = Value.str (tS l) t) vs ts
  | [], _, r => by cases r; exact .nil
  | _ :: _, _, r => by
    cases r with
    | cons r1 r2 => exact .cons r1 (each_strs r2)
theorem vals_each : ∀ {ts : List (List Nat)} {vs : List Value}, PySem.W.EachIs (fun v l => ∃ t, v = Value.str (tS l) t) vs ts → Vals (ts.map tx) vs
  | _, _, .nil => .nil
  | _, _, .cons h t => .cons h (vals_each t)
/-- the body of list.sort with key, at the new list a -/
theorem key_rest {f : Value} {kf : KF} {a kS : Addr} {e1 : Nat} {ts : List (List Nat)} {vs : List Value} {P : PySem.Fin → Shared → Prop} {E : Value → Shared → Prop} {k : Nat} (hr : Room k X.A) (hK : KCall X pins H f kf) (I : L2.Inv X pins σ H s) (rv : Vals (ts.map tx) vs) (hz : ts.length ≤ sizeLine) (hl : ∀ l ∈ ts, l.length ≤ sizeLine)
    (Ha : H a = none) (HkS : H kS = none) (hka : kS ≠ a)
    (ok1 : a ≠ X.env.locals ∧ (a ∈ X.ex ∨ X.s_0.heap.objs.size ≤ a) ∧ (∀ x c, X.env.cells.lookup x = some c → c ≠ a) ∧ (∀ p ∈ X.pn ++ pins, p.1 ≠ a) ∧ a ∉ frs X.stack)
    (ok2 : kS ≠ X.env.locals ∧ (kS ∈ X.ex ∨ X.s_0.heap.objs.size ≤ kS) ∧ (∀ x c, X.env.cells.lookup x = some c → c ≠ kS) ∧ (∀ p ∈ X.pn ++ pins, p.1 ≠ kS) ∧ kS ∉ frs X.stack)
    (nk : s.heap.get? kS = some (seqObj "list" #[] 0)) (na : s.heap.get? a = some (seqObj "list" #[] e1))
    (h : ∀ s' H', L2.Inv X pins σ (upd H' a (.lst ((sortT kf ts).map tx))) s' → Same H H' → H' a = none → P (.done (.ret .none)) s') :
    wpAny (model X.prog X.w) X.A.in1.in1 (ksk_rest a f false vs.toArray e1 (.ref kS)) P E s := by
  have hlen : vs.length = ts.length := by rw [← rv.length, List.length_map]
  have eS := each_strs rv
  unfold ksk_rest
  refine wpAny_bind (wpAny_rule ?_)
  rw [List.forIn_toArray]
  refine wpAny_bind (ksk_fold (fun i s' => ∃ H' kA e, L2.Inv X pins σ H' s' ∧ Same H H' ∧ H' a = none ∧ H' kS = none ∧ s'.heap.get? kS = some (seqObj "list" kA e) ∧ s'.heap.get? a = some (seqObj "list" #[] e1) ∧
      PySem.W.EachIs (fun (v : Value) (l : List Nat) => ∃ p, v = Value.ref p ∧ H' p = some (.tup [.int (kf l).1, tx (kf l).2])) kA.toList (ts.take i)) vs 0 s
    ⟨H, #[], 0, I, Same.refl H, Ha, HkS, nk, na, by rw [List.take_zero]; exact .nil⟩ ?step ?done)
  case step =>
    rintro j x s' hx ⟨H', kA, e, I', sm, ha', hk', nk', na', hk⟩
    simp only [Nat.zero_add] at hk ⊢
    have hj : j < vs.length := (List.getElem?_eq_some_iff.mp hx).1
    obtain ⟨l, hlj⟩ : ∃ l, ts[j]? = some l := ⟨_, List.getElem?_eq_getElem (by omega)⟩
    have hxt : ∃ t, x = Value.str (tS l) t := eS.zip (x, l) (List.mem_of_getElem? (i := j) (by rw [List.getElem?_zip_eq_some]; exact ⟨hx, hlj⟩))
    obtain ⟨t, rfl⟩ := hxt
    have hzA : kA.size ≤ vs.length := by
      have h1 := hk.length
      rw [Array.length_toList, List.length_take] at h1
      omega
    refine wpAny_bind (wpAny_attempt (wpAny_mono (hK s' σ H' l t I' sm (hl l (List.mem_of_getElem? hlj))) (fun v s'' he => ?_) fun _ _ hF => hF.elim))
    obtain ⟨p, H2, os2, bare2, un2, hok2, sm2, rfl, hp⟩ := he
    have I2 : L2.Inv X pins σ H2 s'' := I'.call' os2 un2 hok2 bare2 fun b z => absurd z (by simp)
    have nk2 := un2.keep kS _ nk' hk' ok2.2.2.2.2 (by simp)
    have na2 := un2.keep a _ na' ha' ok1.2.2.2.2 (by simp)
    have hk2 := un2.free kS _ nk' hk' (by simp)
    have ha2 := un2.free a _ na' ha' (by simp)
    have s1 := Heap.SameBut.update s''.heap kS (Obj.mapSeq (·.push (Value.ref p)))
    obtain ⟨c2, hc2⟩ : ∃ c2, (s''.heap.update kS (Obj.mapSeq (·.push (Value.ref p)))).get? kS = some (seqObj "list" (kA.push (Value.ref p)) c2) := ⟨_, get?_update_seq nk2 (·.push (Value.ref p))⟩
    have ek : ts.take (j + 1) = ts.take j ++ [l] := by rw [List.take_add_one, hlj]; simp
    have ea : (kA.push (Value.ref p)).toList = kA.toList ++ [Value.ref p] := by simp
    refine wpAny_bind (listUpdate_at nk2 rfl ?_ (by omega) (by rw [Array.size_push]; omega))
    refine wpAny_pure ⟨rfl, H2, kA.push (Value.ref p), c2, I2.turned (t' := s''.toks) (fun b o hb e => (s1.2 b hb).trans e) hk2 ok2.1 ok2.2.1 ok2.2.2.1 ok2.2.2.2.1, sm.trans sm2, ha2, hk2, hc2, (s1.2 a hka.symm).trans na2, ?_⟩
    rw [ea, ek]
    refine PySem.W.each_snoc ⟨p, rfl, hp⟩ (hk.mono fun v l' q => ?_)
    obtain ⟨p', e', q'⟩ := q
    exact ⟨p', e', sm2 _ _ q'⟩
  case done =>
    rintro s' ⟨H', kA, e, I', sm, ha', hk', nk', na', hk⟩
    have e3 : ts.take (0 + vs.length) = ts := List.take_of_length_le (by omega)
    rw [e3] at hk
    have hsz : kA.size = vs.length := by
      have h1 := hk.length
      rw [Array.length_toList] at h1
      omega
    have hR : PySem.W.EachIs (fun v k => ∃ as, Reads s'.heap v k as) kA.toList (ts.map (kD kf)) := by
      refine PySem.W.each_map (kD kf) (hk.mono fun v l q => ?_)
      obtain ⟨p, rfl, hp⟩ := q
      obtain ⟨_, its, r, o, ho, hc, n, hd⟩ := I'.hok p _ hp
      cases r with
      | cons r1 r2 =>
        cases r2 with
        | cons r2 r3 =>
          cases r3
          obtain ⟨t1, rfl⟩ := r1
          obtain ⟨t2, rfl⟩ := r2
          exact ⟨_, .tuple ho hc hd (.cons (.int _ _) (.cons (.str _ _) .nil))⟩
    try dsimp only
    refine wpAny_bind (listItems_at nk' rfl ?_)
    have hal : PySem.W.AllAlike (ts.map (kD kf)) := PySem.W.AllAlike.of (kD_alike kf)
    have hsk : PySem.W.Sortable (ts.map (kD kf)) := PySem.W.Sortable.tuples fun b => ⟨_, _, rfl⟩
    have hu := hr.units
    have hS := PySem.W.SortsAt.data (prog := X.prog) (w := X.w) (A := X.A.in1.in1) (s := s') hR hal hsk (fun d hd => by
      obtain ⟨l, _, rfl⟩ := List.mem_map.mp hd
      show X.A.units + 1 + 1 + (kD kf l).depth < cLine
      have : (kD kf l).depth ≤ 2 := by simp [kD, PyData.depth, PyData.depthAll]
      omega)
    refine PySem.W.keyH_end (h₁ := PySem.W.hideAll s'.heap [kS]) (fun b o _ q => PySem.W.of_hideAll _ q) (PySem.W.hideAll_none _ (by simp)) nk' na' hka hS hsz (by omega) fun h' tk c kp hD => ?_
    have ko : PySem.W.KeyedOut false (ts.map (kD kf)) vs (PySem.W.sortVals (PySem.W.dataKind s'.heap (ts.map (kD kf))) false kA.toList vs) := ⟨s'.heap, kA.toList, hal, rfl, hR⟩
    have hout := PySem.W.keyedOut_each (kD kf) ko eS
    have kp' : ∀ b o, b ≠ a → b ≠ kS → s'.heap.get? b = some o → h'.get? b = some o := fun b o h1 h2 q => kp b o h1 (PySem.W.hideAll_get _ q (by simpa using h2))
    have nt : ∀ b u, H' b = some u → b ≠ a ∧ b ≠ kS := fun b u q => ⟨ne_of_none q ha', ne_of_none q hk'⟩
    have hlen2 : (sortT kf ts).length = ts.length := (sortT_perm kf ts).length_eq
    refine h _ H' (I'.call' (ch := [kS, a]) (s' := { s' with heap := h', toks := tk }) rfl ⟨?_, ?_, ?_, ?_, ?_, ?_, ?_⟩ ?_ I'.bare ?_) sm ha'
    · intro b o q n _ hx
      simp only [List.mem_cons, List.not_mem_nil, or_false, not_or] at hx
      exact kp' b o hx.2 hx.1 q
    · intro b o q n _ hx
      simp only [List.mem_cons, List.not_mem_nil, or_false, not_or] at hx
      exact ⟨o.slots, kp' b o hx.2 hx.1 q⟩
    · intro b o q n hx
      simp only [List.mem_cons, List.not_mem_nil, or_false, not_or] at hx
      rw [upd_ne hx.2]
      exact n
    · intro b o q hx
      simp only [List.mem_cons, List.not_mem_nil, or_false, not_or] at hx
      exact ⟨o, kp' b o hx.2 hx.1 q⟩
    · intro b xs q
      rw [upd_ne (nt b _ q).1]
      exact q
    · intro b o u q
      rw [upd_ne (nt b _ q).1]
      exact q
    · intro b ps q
      refine ⟨#[], ?_⟩
      rw [upd_ne (nt b _ q).1, q]
      simp
    · intro b u q
      by_cases hb : b = a
      · subst hb
        rw [upd_same] at q
        cases q
        exact ⟨by rw [List.length_map, hlen2]; exact hz, _, c, vals_each hout, hD⟩
      · rw [upd_ne hb] at q
        refine (I'.hok b u q).stay (fun d v hd q' => ?_) (fun d q' => by rw [upd_ne (nt d _ q').1]; exact q') fun d xs q' => by rw [upd_ne (nt d _ q').1]; exact q'
        rcases hd with rfl | hd
        · exact kp' _ _ (nt _ _ q).1 (nt _ _ q).2 q'
        · exact kp' _ _ (nt _ _ hd).1 (nt _ _ hd).2 q'
    · intro b hb
      simp only [List.mem_cons, List.not_mem_nil, or_false] at hb
      rcases hb with rfl | rfl
      · exact ⟨ok2.2.1, ok2.1, ok2.2.2.1, ok2.2.2.2.1⟩
      · exact ⟨ok1.2.1, ok1.1, ok1.2.2.1, ok1.2.2.2.1⟩
/-- list.sort(a, key=f) on the new list a (not tracked), as sorted does it -/
theorem key_tree {f : Value} {kf : KF} {a : Addr} {n : Nat} {ts : List (List Nat)} {vs : List Value} {P : PySem.Fin → Shared → Prop} {E : Value → Shared → Prop} {k : Nat} (hr : Room k X.A) (hK : KCall X pins H f kf) (I : L2.Inv X pins σ H s) (rv : Vals (ts.map tx) vs) (hz : ts.length ≤ sizeLine) (hl : ∀ l ∈ ts, l.length ≤ sizeLine)
    (Ha : H a = none) (ho : s.heap.get? a = some (seqObj "list" vs.toArray n))
    (ok1 : a ≠ X.env.locals ∧ (a ∈ X.ex ∨ X.s_0.heap.objs.size ≤ a) ∧ (∀ x c, X.env.cells.lookup x = some c → c ≠ a) ∧ (∀ p ∈ X.pn ++ pins, p.1 ≠ a) ∧ a ∉ frs X.stack)
    (h : ∀ s' H', L2.Inv X pins σ (upd H' a (.lst ((sortT kf ts).map tx))) s' → Same H H' → H' a = none → P (.done (.ret .none)) s') :
    wpAny (model X.prog X.w) X.A.in1.in1 (ksk_tree a f false) P E s := by
  have hlen : vs.length = ts.length := by rw [← rv.length, List.length_map]
  have hZ : vs.length ≤ sizeLine := by omega
  have hlt : a < s.heap.objs.size := Heap.lt_size ho
  obtain ⟨e1, ho1⟩ : ∃ e1, (s.heap.update a (Obj.mapSeq fun _ => (#[] : Array Value))).get? a = some (seqObj "list" #[] e1) := ⟨_, get?_update_seq ho fun _ => #[]⟩
  have hkS : ((s.heap.update a (Obj.mapSeq fun _ => (#[] : Array Value))).push (seqObj "tuple" vs.toArray 0)).objs.size = s.heap.objs.size + 1 := by rw [size_push', Heap.size_update]
  have s1 := Heap.SameBut.update s.heap a (Obj.mapSeq fun _ => (#[] : Array Value))
  have I1 : L2.Inv X pins σ H { s with heap := s.heap.update a (Obj.mapSeq fun _ => (#[] : Array Value)) } := I.turned (t' := s.toks) (fun b o hb e => (s1.2 b hb).trans e) Ha ok1.1 ok1.2.1 ok1.2.2.1 ok1.2.2.2.1
  have I3 : L2.Inv X pins σ H { s with heap := ((s.heap.update a (Obj.mapSeq fun _ => (#[] : Array Value))).push (seqObj "tuple" vs.toArray 0)).push (seqObj "list" #[] 0) } :=
    I1.kept (t' := s.toks) fun b o e => Heap.get?_push_of_some _ (Heap.get?_push_of_some _ e)
  have up := above_ok (it := s.heap.objs.size + 1) I (Nat.le_succ _)
  unfold ksk_tree
  refine wpAny_bind (listItems_at ho rfl ?_)
  refine wpAny_bind (listUpdate_at ho rfl ?_ (by rw [List.size_toArray]; exact hZ) (Nat.zero_le _))
  refine wpAny_bind (seqEpoch_at ho1 rfl ?_)
  refine wpAny_bind (wpAny_newTuple ?_ (by show vs.length ≤ _; exact hZ))
  refine wpAny_bind (wpAny_newList ?_ (Nat.zero_le _))
  refine wpAny_holding ?_
  have nkS : (((s.heap.update a (Obj.mapSeq fun _ => (#[] : Array Value))).push (seqObj "tuple" vs.toArray 0)).push (seqObj "list" #[] 0)).get? (s.heap.objs.size + 1) = some (seqObj "list" #[] 0) := by
    rw [← hkS]; exact Heap.get?_push_size _ rfl
  show wpAny (model X.prog X.w) X.A.in1.in1 (ksk_rest a f false vs.toArray e1 (.ref ((s.heap.update a (Obj.mapSeq fun _ => (#[] : Array Value))).push (seqObj "tuple" vs.toArray 0)).objs.size)) P E { s with heap := ((s.heap.update a (Obj.mapSeq fun _ => (#[] : Array Value))).push (seqObj "tuple" vs.toArray 0)).push (seqObj "list" #[] 0) }
  rw [hkS]
  exact key_rest hr hK I3 rv hz hl Ha (I.hok.fresh (Nat.le_succ _)) (Nat.ne_of_gt (Nat.lt_succ_of_lt hlt)) ok1 up nkS (Heap.get?_push_of_some _ (Heap.get?_push_of_some _ ho1)) h
/-- sorted(l, key=f), l a list of texts -/
theorem sorted_key {f : Value} {kf : KF} {l : Addr} {ts : List (List Nat)} {Q : VK} {k : Nat} (hr : Room k X.A) (hf : ∀ x, Builtin.«list.sort» ⟨[.ref x], [(Str.ofString "key", f)]⟩ = ksk_tree x f false) (hK : KCall X pins H f kf) (I : L2.Inv X pins σ H s) (hS : SqL X.K H l (ts.map tx)) (hl : ∀ l ∈ ts, l.length ≤ sizeLine)
    (q : ∀ H' p, Same H H' → H p = none → H' p = some (.lst ((sortT kf ts).map tx)) → Q (.ref p) H') :
    wpAny (model X.prog X.w) X.A (call (.builtin "sorted") [.ref l] [(Str.ofString "key", f)]) (EP X pins σ Q) X.xe s := by
  obtain ⟨its, rv, hL, hz⟩ := I.list hS
  have hlen := rv.length
  rw [List.length_map] at hz
  refine PySem.W.sorted_of_sort hL.isList (by rw [← hlen, List.length_map]; exact hz) (PyProof.Rows.ksk_s1 _ _) (fun _ => PyProof.Rows.ksk_l1 _ _) fun E' => ?_
  rw [hf]
  have I1 : L2.Inv X pins σ H { s with heap := PySem.W.copyHeap s.heap its } := I.kept (t' := s.toks) fun b o e => PySem.W.copyHeap_old e
  have hn : H (s.heap.objs.size + 1) = none := I.hok.fresh (Nat.le_succ _)
  refine key_tree hr hK I1 rv hz hl hn (PySem.W.copyHeap_at s.heap its) (above_ok (it := s.heap.objs.size + 1) I (Nat.le_succ _)) fun s' H' I' sm ha => ⟨rfl, ?_⟩
  refine ⟨.ref _, _, I', rfl, q _ _ (fun b o e => ?_) hn upd_same⟩
  rw [upd_ne (ne_of_none e hn)]
  exact sm b o e
end
end L3
namespace L3
open PySem PySem.Spec PyProof.Rows L2
section
variable {X : Cx} {pins : List (Addr × Obj)} {σ : L2.St} {H : Hp} {s : Shared}
/-- sorted(d, key=f), d a dict whose keys are texts -/
theorem sorted_keyD {f : Value} {kf : KF} {d : Addr} {kvs : List (Key × V)} {ts : List (List Nat)} {Q : VK} {k : Nat} (hc : X.calm = true) (hr : Room k X.A) (hf : ∀ x, Builtin.«list.sort» ⟨[.ref x], [(Str.ofString "key", f)]⟩ = ksk_tree x f false) (hK : KCall X pins H f kf) (I : L2.Inv X pins σ H s)
    (hd : H d = some (.dK kvs)) (hks : kvs.map (·.1) = ts.map fun l => Sum.inr (tS l)) (hl : ∀ l ∈ ts, l.length ≤ sizeLine)
    (q : ∀ H' p, Same H H' → H p = none → H' p = some (.lst ((sortT kf ts).map tx)) → Q (.ref p) H') :
    wpAny (model X.prog X.w) X.A (call (.builtin "sorted") [.ref d] [(Str.ofString "key", f)]) (EP X pins σ Q) X.xe s := by
  obtain ⟨z, lo, vs, rel, dd⟩ := I.hok d _ hd
  obtain ⟨ep, hat⟩ := dd.dictAt
  have lk : kvs.length = vs.length := Paired.length rel
  have lt : kvs.length = ts.length := by
    have e := congrArg List.length hks
    rwa [List.length_map, List.length_map] at e
  have hkeys : vs.map (·.1) = ts.map fun l => Sum.inr (tS l) := (KV.keys rel).symm.trans hks
  refine call_function_entry_kw kind_sorted plain_sorted entry_sorted (PyProof.Rows.ksk_s1 _ _) ?_
  unfold Builtin.«sorted»
  refine wpAny_bind (m := checkCount "sorted" 1 1 _) (wpAny_pure ?_)
  refine wpAny_bind (PySem.W.kdu_collect (A := X.A.in1) (PySem.W.kdl_dict (knd := mixKind X.prog X.w) (kvs := vs) (ep := ep) lo) (I.ok.hd hc) hat (by omega) fun h' tk acc hk hacc => ?_)
  have hal : acc.toList.length = ts.length := by rw [len_toL, hacc.1]; omega
  have rv : Vals (ts.map tx) acc.toList := vals_of_at (by rw [List.length_map, hal]) fun j x w h1 h2 => by
    obtain ⟨kk, y, e1, e2⟩ := hacc.2 j w (by rw [← Array.getElem?_toList]; exact h2)
    have e3 : (vs.map (·.1))[j]? = some kk := by rw [List.getElem?_map, e1]; rfl
    rw [hkeys, List.getElem?_map] at e3
    rw [List.getElem?_map] at h1
    cases e4 : ts[j]? with
    | none => rw [e4] at e3; cases e3
    | some l =>
      rw [e4] at e3 h1
      cases h1
      have e5 : Sum.inr (tS l) = kk := Option.some.inj e3
      subst e5
      exact keyIs_rel (k := Sum.inr (tS l)) e2
  have I1 : L2.Inv X pins σ H { s with heap := h', toks := tk } := I.kept hk
  refine wpAny_bind (wpAny_newList ?_ (by omega))
  have hoL : (h'.push (seqObj "list" acc.toList.toArray 0)).get? h'.objs.size = some (seqObj "list" acc.toList.toArray 0) := Heap.get?_push_size _ rfl
  have I2 : L2.Inv X pins σ H { s with heap := h'.push (seqObj "list" acc.toList.toArray 0), toks := tk } := I1.kept (t' := tk) fun b o e => Heap.get?_push_of_some _ e
  have hn : H h'.objs.size = none := I1.hok.fresh (Nat.le_refl _)
  show wpAny _ _ _ _ _ { s with heap := h'.push (seqObj "list" acc.toList.toArray 0), toks := tk }
  refine wpAny_bind (wpAny_holding (wpAny_call_entry_kw slot_list_sort ⟨_, hoL, rfl⟩ entry_list_sort ?body (PyProof.Rows.ksk_l1 _ _)))
  case body =>
    show wpAny (model X.prog X.w) X.A.in1.in1 (Builtin.«list.sort» ⟨[.ref h'.objs.size], [(Str.ofString "key", f)]⟩) _ _ _
    rw [hf]
    refine key_tree hr hK I2 rv (by omega) hl hn hoL (above_ok (it := h'.objs.size) I1 (Nat.le_refl _)) fun s' H' I' sm ha => ⟨_, rfl, wpAny_pure ⟨_, rfl, ?_⟩⟩
    refine ⟨.ref _, _, I', rfl, q _ _ (fun b o e => ?_) hn upd_same⟩
    rw [upd_ne (ne_of_none e hn)]
    exact sm b o e
end
end L3
/-! sorted(.., key=def) and sorted(.., key=lambda). -/
namespace L3
open PySem PySem.Spec PyProof.Rows L2
/-- the promise of a def that gives a key -/
def spKey (kf : KF) : Sp := fun vs H Q _ => ∃ l, vs = [tx l] ∧ l.length ≤ sizeLine ∧ ∀ H' p, Same H H' → H' p = some (.tup [.int (kf l).1, tx (kf l).2]) → Q (.ref p) H'
section
variable {X : Cx}
theorem kcall_fn {k : Nat} {f : Addr} {fd : FuncData} {x : Str} {kf : KF} {pins : List (Addr × Obj)} {H0 : Hp} (F : FnOk X.prog X.w X.K X.mg X.base CX0 k f fd [x] (spKey kf)) (hr : Room (k + 2) X.A) (hb : L2.Binds X.K fd [x] []) : KCall X pins H0 (.ref f) kf := by
  intro s σ H l t I sm hl
  have hb' : BindsTo s fd ⟨[.str (tS l) t], []⟩ ([x].zip [.str (tS l) t]) := hb s [.str (tS l) t] I.kIn rfl
  refine wpAny_call (codeAny_mono (F.run X.A.in1.in1 X.stack s H ⟨[.str (tS l) t], []⟩ [.str (tS l) t] [tx l] (fun v H' => Same H H' ∧ ∃ p, v = .ref p ∧ H' p = some (.tup [.int (kf l).1, tx (kf l).2])) E0 hr.in1.in1 I.env0.in1.in1 hb' (.cons ⟨t, rfl⟩ .nil) ⟨l, rfl, hl, fun H' p s1 hp => ⟨s1, p, rfl, hp⟩⟩) fun r s' hq => ?_)
  cases r with
  | error e => exact (show False from hq).elim
  | ok fl =>
    cases fl with
    | ret u =>
      obtain ⟨v, H', os, bare, un, hok, rv, sm', p, rfl, hp⟩ := hq
      exact ⟨p, H', os, bare, un, hok, sm', rv, hp⟩
    | next => exact False.elim hq
    | brk => exact False.elim hq
    | cont => exact False.elim hq
def rSortKey (K : PySem.W.Frag) (f : Addr) (kf : KF) : List V → List V → Hp → VK → Prop := fun vs zs H Q => ∃ (a : Addr) (ts : List (List Nat)), vs = [.ref a] ∧ zs = [.ref f] ∧ SqL K H a (ts.map tx) ∧ (∀ l ∈ ts, l.length ≤ sizeLine) ∧
  ∀ H' p, Same H H' → H p = none → H' p = some (.lst ((sortT kf ts).map tx)) → Q (.ref p) H'
/-- sorted(e, key=f), f a def -/
theorem cr_sortKey {k : Nat} {f : Addr} {fd : FuncData} {x : Str} {kf : KF} (F : FnOk X.prog X.w X.K X.mg X.base CX0 k f fd [x] (spKey kf)) (hr : Room (k + 2) X.A) (hb : L2.Binds X.K fd [x] []) : CallRK X (.builtin "sorted") [Str.ofString "key"] (rSortKey X.K f kf) := by
  intro pins s σ H vs zs us ws Q I r rz h
  obtain ⟨a, ts, rfl, rfl, hS, hl, q⟩ := h
  obtain rfl := Vals.ref1 r
  obtain rfl := Vals.ref1 rz
  exact sorted_key hr (fun x => PyProof.Rows.ksk_t1 f x) (kcall_fn F hr hb) I hS hl q
end
/-! ### a lambda with parameters and nothing captured -/
section
variable {P : Program} {w : World} {K : PySem.W.Frag} {mg : Str → Option Value} {base : Heap}
theorem lam_run {k : Nat} {f c' : Addr} {q : Str} {params : Arguments} {body : Expr} {scope : Scope} {pm ctv : Value} {N ps : List Str} {A : Around} {outer : List Env} {s : Shared} {H : Hp} {us : List Value} {vs : List V} {Q : VK}
    (ho : s.heap.get? f = some (PySem.W.kla_obj "<lambda>" q params body scope [] pm c' ctv)) (hcd : s.heap.CodeRec (.ref c') q) (S : FnScope N ps scope) (hr : Room (k + 1) A) (e0 : Env0 P w K mg base A outer s H)
    (hb : bindArgs (PySem.W.kla_fn "<lambda>" q params body scope [] pm (.ref c') ctv) ⟨us, []⟩ = pure (ps.zip us)) (r : Vals vs us) (hl : vs.length = ps.length)
    (hbody : Room k (A.deeper (envOfC q scope s.heap.objs.size f (.ref c'))) → ∃ t, PE (cxOf CX0 P w K mg base N q scope f (.ref c') A outer s H E0).nox body t ∧ t (L2.start N vs) H Q) :
    codeAny (model P w) A (.call (.ref f) ⟨us, []⟩) (CR CX0 outer P w H s Q E0) s := by
  have lim : s.heap.NoLimit := e0.mod.nolimit.keeps fun b o e => (e0.bs b o e).1
  have hkind : ∀ y ∈ ps.zip us, scope.names.lookup y.1 = some .local ∨ (scope.names.lookup y.1 = some .cell ∧ ((cellsFrom (s.heap.objs.size + 1) scope.names []).lookup y.1).isSome = true) := fun ⟨n, v⟩ hy => by
    rcases S.par n (List.of_mem_zip hy).1 with z | z
    · exact .inl z
    · exact .inr ⟨z, PySem.W.cellsFrom_some _ _ _ (.inl z)⟩
  refine PySem.W.kla_callFunE hr.depth ho rfl S.co S.gen rfl hcd ?_
  rw [hb]
  refine wpAny_pure ?_
  refine wpAny_newFunctionEnv_cells S.kind hkind fun env he s1 x => ?_
  subst he
  refine ⟨lim.keeps x.toInCall.keep, ?_⟩
  obtain ⟨t, ht, hq⟩ := hbody (hr.deeper _)
  have I : L2.Inv (cxOf CX0 P w K mg base N q scope f (.ref c') A outer s H E0) [] (L2.start N vs) H s1 := inv_start S hr.hd e0 hl r x
  show codeAny _ A (.expr body (envOfC q scope s.heap.objs.size f (.ref c'))) _ s1
  refine PySem.W.kla_codeExpr (wpAny_mono (ht.nox.run [] s1 (L2.start N vs) H Q I hq) (fun v s' hs => ?_) fun e s' hs => hs)
  obtain ⟨v', H', J, rv, qq⟩ := hs
  exact ⟨v', H', J.os, J.bare, J.base, J.hok, rv, qq⟩
end
section
variable {X : Cx} {pins : List (Addr × Obj)} {σ : L2.St} {H : Hp} {s : Shared}
theorem Inv_pin {f : Addr} {o : Obj} (I : L2.Inv X pins σ H s) (hf : s.heap.get? f = some o) (hn : H f = none) (hfr : f ∉ frs X.stack) (hL : f ≠ X.env.locals) (hc : ∀ v, o.data ≠ .cell v) : L2.Inv X ((f, o) :: pins) σ H s := by
  refine ⟨I.ok, I.os, I.bare, I.base, I.loc, I.cell, I.free, I.freeC, fun p hp => ?_, I.hok, I.len⟩
  rcases List.mem_append.mp hp with hp | hp
  · exact I.pin p (List.mem_append_left _ hp)
  · rcases List.mem_cons.mp hp with rfl | hp
    · refine ⟨hf, hn, hL, fun z => hfr ?_, hc⟩
      rcases I.ok.stk with e | ⟨e, _⟩
      · rw [e]; exact z
      · rw [e]
        unfold frs
        rw [List.filterMap_cons]
        split
        · exact z
        · exact List.mem_cons_of_mem _ z
    · exact I.pin p (List.mem_append_right _ hp)
theorem Inv_unpin {p : Addr × Obj} (I : L2.Inv X (p :: pins) σ H s) : L2.Inv X pins σ H s := by
  refine ⟨I.ok, I.os, I.bare, I.base, I.loc, I.cell, I.free, I.freeC, fun q hq => ?_, I.hok, I.len⟩
  rcases List.mem_append.mp hq with hq | hq
  · exact I.pin q (List.mem_append_left _ hq)
  · exact I.pin q (List.mem_append_right _ (List.mem_cons_of_mem _ hq))
end
end L3
/-! sorted(.., key=lambda x: ..). -/
namespace L3
open PySem PySem.Spec PyProof.Rows L2
/-- what is new is none of the old -/
def Fresh (H : Hp) (p : Addr) : Prop := ∀ b o, H b = some o → (∀ ps, o ≠ .tbl ps) → b ≠ p
/-- what sorted(x, key=lambda) asks, x a dict of texts or a list of texts -/
def rSortLam (K : PySem.W.Frag) (T : List (Addr × Str)) (kf : KF) : V → Hp → VK → Prop := fun x H Q => ∃ (d : Addr) (ts : List (List Nat)), x = .ref d ∧
  ((∃ kvs : List (Key × V), H d = some (.dK kvs) ∧ kvs.map (·.1) = ts.map fun l => Sum.inr (tS l)) ∨ H d = some (.lst (ts.map tx))) ∧ (∀ l ∈ ts, l.length ≤ sizeLine) ∧ LamX.Tabs T H ∧
  ∀ H' p, LamX.ExtN H H' → LamX.Tabs T H' → Fresh H p → H' p = some (.lst ((sortT kf ts).map tx)) → Q (.ref p) H'
section
variable {X : Cx}
theorem kcall_lam {k : Nat} {f c' : Addr} {params : Arguments} {body : Expr} {scope : Scope} {q : Str} {pm ctv : Value} {N : List Str} {y : Str} {kf : KF} {tb : TE} {pins : List (Addr × Obj)} {H0 : Hp} (hr : Room (k + 3) X.A) (S : FnScope N [y] scope)
    (hf : (f, PySem.W.kla_obj "<lambda>" q params body scope [] pm c' ctv) ∈ pins) (hc : H0 c' = some (LamX.CodeO c' q))
    (hbind : ∀ u : Value, bindArgs (PySem.W.kla_fn "<lambda>" q params body scope [] pm (.ref c') ctv) ⟨[u], []⟩ = pure [(y, u)])
    (hbody : ∀ (A : Around) (outer : List Env) (s : Shared) (H : Hp) (f c' : Addr), Room k (A.deeper (envOfC q scope s.heap.objs.size f (.ref c'))) → PE (cxOf CX0 X.prog X.w X.K X.mg X.base N q scope f (.ref c') A outer s H E0).nox body tb)
    (hread : ∀ (l : List Nat) (H : Hp), l.length ≤ sizeLine → tb (L2.start N [tx l]) H fun v H' => Same H H' ∧ ∃ p, v = .ref p ∧ H' p = some (.tup [.int (kf l).1, tx (kf l).2])) : KCall X pins H0 (.ref f) kf := by
  intro s σ H l t I sm hl
  have hp := I.pin _ (List.mem_append_right X.pn hf)
  obtain ⟨⟨oc, vs, t', hoc, hdc, hvc⟩, _, _⟩ := I.hok c' _ (sm _ _ hc)
  have rc : codeAny (model X.prog X.w) X.A.in1.in1 (.call (.ref f) ⟨[.str (tS l) t], []⟩) (CR CX0 X.stack X.prog X.w H s (fun v H' => Same H H' ∧ ∃ p, v = .ref p ∧ H' p = some (.tup [.int (kf l).1, tx (kf l).2])) E0) s :=
    lam_run (vs := [tx l]) hp.1 ⟨c', oc, vs, t', rfl, hoc, hdc, hvc⟩ S hr.in1.in1 I.env0.in1.in1 (hbind _) (.cons ⟨t, rfl⟩ .nil) rfl fun hr' => ⟨tb, hbody _ _ _ _ _ _ hr', hread l H hl⟩
  refine wpAny_call (codeAny_mono rc fun r s' hq => ?_)
  cases r with
  | error e => exact (show False from hq).elim
  | ok fl =>
    cases fl with
    | ret u =>
      obtain ⟨v, H', os, bare, un, hok, rv, sm', p, rfl, hp⟩ := hq
      exact ⟨p, H', os, bare, un, hok, sm', rv, hp⟩
    | next => exact False.elim hq
    | brk => exact False.elim hq
    | cont => exact False.elim hq
/-- sorted(e, key=lambda y: body) -/
theorem pe_sortLam {T : List (Addr × Str)} {c P : Addr} {k : Nat} {e : Expr} {te tb : TE} {params : Arguments} {body : Expr} {scope : Scope} {N : List Str} {y : Str} {kf : KF} {p lpos kpos pos : Pos} (hcalm : X.calm = true) (hg : Gl X "sorted") (hm : X.mg "sorted" = none) (hv : bootBuiltins "sorted" = some (.builtin "sorted"))
    (he : PE X e te) (TB : LamX.TabB X.base X.mg c P) (hcode : X.env.code = .ref c) (hmT : (P, X.env.qual ++ "<lambda>") ∈ T) (hu : ∀ p ∈ T, p.1 = P → p.2 = X.env.qual ++ "<lambda>") (hr : Room (k + 3) X.A) (S : FnScope N [y] scope) (hdef : defaultsOf params X.env = ([], []))
    (hclo : cloFrom X.env.cells scope.names [] = []) (hfree : ∀ y ∈ scope.names, y.2 ≠ .free)
    (hbind : ∀ (q : Str) (pm cv ctv u : Value), bindArgs (PySem.W.kla_fn "<lambda>" q params body scope [] pm cv ctv) ⟨[u], []⟩ = pure [(y, u)])
    (hbody : ∀ (A : Around) (outer : List Env) (s : Shared) (H : Hp) (f c' : Addr), Room k (A.deeper (envOfC (X.env.qual ++ "<lambda>") scope s.heap.objs.size f (.ref c'))) → PE (cxOf CX0 X.prog X.w X.K X.mg X.base N (X.env.qual ++ "<lambda>") scope f (.ref c') A outer s H E0).nox body tb)
    (hread : ∀ (l : List Nat) (H : Hp), l.length ≤ sizeLine → tb (L2.start N [tx l]) H fun v H' => Same H H' ∧ ∃ p, v = .ref p ∧ H' p = some (.tup [.int (kf l).1, tx (kf l).2]))
    (hst : backTo pos (starEach [e] X.env) = (false, eval e X.env) :: backTo pos (starEach [] X.env) := by rfl) :
    PE X (.Call (.Name "sorted" p) [e] [⟨some "key", .Lambda params body scope lpos, kpos⟩] pos) (fun σ H Q => te σ H fun x H1 => rSortLam X.K T kf x H1 Q) := by
  refine ⟨fun pins s σ H Q I h => ?_⟩
  refine wpAny_Call_Name_kw (ld_blt I hg hm hv ?_)
  refine PyProof.Rows.callWith_kw ?_ hst (by rw [hst]; rfl) rfl rfl
  rw [hst]
  refine Calls.spliced_cons (thn (he.run pins s σ H _ I h) fun u s1 ⟨x, H1, I1, r1, q1⟩ => ?_)
  refine Calls.spliced_nil ?_
  show wpAny _ _ (evalAll [do let v ← eval (.Lambda params body scope lpos) X.env; standAt pos; pure v]) _ _ s1
  obtain ⟨d, ts, rfl, hd, hl, hT, q⟩ := q1
  obtain rfl : u = Value.ref d := r1
  refine wpAny_evalAll_cons (wpAny_bind (LamX.lam_make2 I1 TB hcode hmT hu hT hdef (fun y hy e => absurd e (hfree y hy)) fun f c' pm ctv H2 s2 I2 eN T2 hf hfn hfr hco => ?_))
  refine wpAny_bind (wpAny_standAt (wpAny_pure (wpAny_evalAll_nil ?_)))
  rw [hclo] at hf
  show wpAny (model X.prog X.w) X.A (call (.builtin "sorted") [.ref d] [(Str.ofString "key", .ref f)]) _ _ _
  have hL : f ≠ X.env.locals := fun e => by
    obtain ⟨m, ⟨o, es, ep, ho, hd', _⟩, _⟩ := I2.loc
    rw [← e, hf] at ho
    cases ho
    cases hd'
  have I3 := Inv_pin (s := _) (I2.tok s2.toks) hf hfn hfr hL (fun v z => nomatch z)
  have hK := kcall_lam (X := X) (pins := (f, PySem.W.kla_obj "<lambda>" (X.env.qual ++ "<lambda>") params body scope [] pm c' ctv) :: pins) (H0 := H2) hr S List.mem_cons_self hco (fun u => hbind _ _ _ _ u) hbody hread
  have fin : ∀ H' p, Same H2 H' → H2 p = none → H' p = some (.lst ((sortT kf ts).map tx)) → Q (.ref p) H' := fun H' p sm hp hl' =>
    q H' p (eN.trans (LamX.ExtN.of sm)) (T2.ext sm) (fun b o hb ho e => by rw [e] at hb; rw [eN _ _ hb ho] at hp; cases hp) hl'
  have back : ∀ v s', EP X ((f, PySem.W.kla_obj "<lambda>" (X.env.qual ++ "<lambda>") params body scope [] pm c' ctv) :: pins) σ Q v s' → EP X pins σ Q v s' := fun v s' ⟨v', H', J, rv, qq⟩ => ⟨v', H', Inv_unpin J, rv, qq⟩
  rcases hd with ⟨kvs, hd, hk⟩ | hd
  · have hd2 := eN _ _ hd (fun ps z => nomatch z)
    exact wpAny_mono (sorted_keyD hcalm hr (fun x => PyProof.Rows.ksk_t1 f x) hK I3 hd2 hk hl fin) back fun _ _ z => z
  · have hd2 := eN _ _ hd (fun ps z => nomatch z)
    exact wpAny_mono (sorted_key hr (fun x => PyProof.Rows.ksk_t1 f x) hK I3 (.inl (.inl hd2)) hl fin) back fun _ _ z => z
end
end L3
/-! The end of a law row: the law's def is run where no repr is under way; tables of code objects; the script's bits. -/
namespace L3
open PySem PySem.Spec PyProof.Rows L2
/-- the tracked heap at the law's call: the script (locked), where it is not written, and the tables -/
def H0 (K : PySem.W.Frag) (a : Addr) (vs : List Value) (ns : List Int) (cs : List (Addr × Addr)) : Hp := fun b =>
  if b = a then (if (K.lookup a).isSome then none else some (.frz { cls := .type "list", data := .seq vs.toArray } (.lst (ns.map V.int)))) else if b ∈ cs.map (·.2) then some (.tbl #[]) else none
theorem law_callG {P : Program} {w : World} {K : PySem.W.Frag} {mg mb : Str → Option Value} {k : Nat} {fa a : Addr} {cs : List (Addr × Addr)} {fd : FuncData} {x : Str} {sp : Sp} {s₁ : Shared} {vs : List Value} {ns : List Int}
    (KX : K.In s₁.heap) (hns : s₁.heap.Ns mainGlobals mg) (hb : s₁.heap.Ns builtinsNs mb) (hbb : ∀ x : Str, x ≠ "__name__" → mb x = bootBuiltins x) (hlim : s₁.heap.NoLimit) (hg : s₁.gens = #[])
    (hT : ∀ p ∈ cs, s₁.heap.get? p.2 = some { cls := .none, data := .fields #[] }) (nT : ∀ p ∈ cs, K.lookup p.2 = none) (C : ∀ p ∈ cs, PySem.W.CodeHd s₁.heap p.1 p.2)
    (hbm : ∃ (bm : Addr) (ob : Obj), mg "__builtins__" = some (.ref bm) ∧ bm ≠ builtinsNs ∧ s₁.heap.get? bm = some ob ∧ ob.cls = .type "module" ∧ ob.dict = some builtinsNs ∧ ob.data = .plain)
    (ha : s₁.heap.get? a = some { cls := .type "list", data := .seq vs.toArray }) (hi : IntsAre vs ns) (hl : ns.length ≤ sizeLine) (hr : Room k callerA)
    (F : ∀ base : Heap, K.In base → base.Ns mainGlobals mg → (∀ p ∈ cs, LamX.TabB base mg p.1 p.2) → FnOkG P w K mg base CX0 k fa fd [x] sp) (hbind : L2.Binds K fd [x] [])
    (hsp : ∀ H : Hp, (∀ p ∈ cs, H p.2 = some (.tbl #[])) → SqL K H a (ns.map V.int) → sp [.ref a] H (fun v _ => v = .bl true) fun _ _ _ => False) :
    codeAny (model P w) callerA (.call (.ref fa) ⟨[.ref a], []⟩) (fun r s' => r = .ok (.ret (.bool true)) ∧ OldK s₁.heap s'.heap ∧ s'.os = s₁.os ∧ AllBare s'.gens) s₁ := by
  have rv := vals_ints hi
  have lenV := hi.length
  have isT : ∀ b : Addr, b ∈ cs.map (·.2) → s₁.heap.get? b = some { cls := .none, data := .fields #[] } := fun b hb => by
    obtain ⟨p, hp, e⟩ := List.mem_map.mp hb
    rw [← e]; exact hT p hp
  have aT : a ∉ cs.map (·.2) := fun z => by
    have q := isT a z
    rw [ha] at q
    cases congrArg Obj.data (Option.some.inj q)
  have memT : ∀ p ∈ cs, p.2 ∈ cs.map (·.2) := fun p hp => List.mem_map.mpr ⟨p, hp, rfl⟩
  -- the three cases of H0
  have hcase : ∀ b, (b = a ∧ H0 K a vs ns cs b = none ∧ (K.lookup a).isSome = true) ∨ (b = a ∧ K.lookup a = none ∧ H0 K a vs ns cs b = some (.frz { cls := .type "list", data := .seq vs.toArray } (.lst (ns.map V.int)))) ∨
      (b ≠ a ∧ b ∈ cs.map (·.2) ∧ H0 K a vs ns cs b = some (.tbl #[])) ∨ (b ≠ a ∧ b ∉ cs.map (·.2) ∧ H0 K a vs ns cs b = none) := fun b => by
    unfold H0
    by_cases e : b = a
    · rw [if_pos e]
      cases hk : K.lookup a with
      | some o => exact .inl ⟨e, rfl, rfl⟩
      | none => exact .inr (.inl ⟨e, rfl, rfl⟩)
    · rw [if_neg e]
      by_cases e2 : b ∈ cs.map (·.2)
      · rw [if_pos e2]; exact .inr (.inr (.inl ⟨e, e2, rfl⟩))
      · rw [if_neg e2]; exact .inr (.inr (.inr ⟨e, e2, rfl⟩))
  have tabAt : ∀ p ∈ cs, H0 K a vs ns cs p.2 = some (.tbl #[]) := fun p hp => by
    rcases hcase p.2 with ⟨e, _⟩ | ⟨e, _⟩ | ⟨_, _, z⟩ | ⟨_, n, _⟩
    · exact absurd (e ▸ memT p hp) aT
    · exact absurd (e ▸ memT p hp) aT
    · exact z
    · exact absurd (memT p hp) n
  have free : ∀ {b : Addr} {o : Obj}, s₁.heap.get? b = some o → (∀ vs n, o.data ≠ .seq vs n) → o.data ≠ .fields #[] → H0 K a vs ns cs b = none := fun {b o} e h1 h2 => by
    rcases hcase b with ⟨_, z, _⟩ | ⟨e', _⟩ | ⟨_, e', _⟩ | ⟨_, _, z⟩
    · exact z
    · rw [e', ha] at e
      cases e
      exact absurd rfl (h1 _ _)
    · rw [isT b e'] at e
      cases e
      exact absurd rfl h2
    · exact z
  have nsK : ∀ {b : Addr} {m : Str → Option Value}, s₁.heap.Ns b m → (hidT s₁.heap (H0 K a vs ns cs)).Ns b m := fun {b m} ⟨o, es, ep, e, d, r⟩ =>
    ⟨o, es, ep, hidT_get e (free e (fun vs n z => by rw [d] at z; cases z) fun z => by rw [d] at z; cases z), d, r⟩
  have hKb : K.In (hidT s₁.heap (H0 K a vs ns cs)) := fun b o e => hidT_get (KX b o e) (by
    rcases hcase b with ⟨_, z, _⟩ | ⟨e', n, _⟩ | ⟨_, e', _⟩ | ⟨_, _, z⟩
    · exact z
    · rw [e', n] at e; cases e
    · obtain ⟨p, hp, ep⟩ := List.mem_map.mp e'
      rw [← ep, nT p hp] at e
      cases e
    · exact z)
  have hM : L2.Mod K mg (hidT s₁.heap (H0 K a vs ns cs)) := ⟨hKb, nsK hns, ⟨mb, nsK hb, hbb⟩, let ⟨mc, h1, h2⟩ := hlim; ⟨mc, nsK h1, h2⟩⟩
  have TB : ∀ p ∈ cs, LamX.TabB (hidT s₁.heap (H0 K a vs ns cs)) mg p.1 p.2 := fun p hp => by
    have hTp := hT p hp
    refine ⟨?_, ?_, fun z => ?_⟩
    · obtain ⟨o, us, file, tf, flags, tg, inF, text, tt, e1, r1, r2, r3, r⟩ := C p hp
      refine ⟨o, us, file, tf, flags, tg, inF, text, tt, hidT_get e1 (free e1 (fun vs n z => by rw [r2] at z; cases z) fun z => ?_), r1, r2, r3, r⟩
      rw [r2] at z
      cases z
      simp at r3
    · obtain ⟨bm, ob, b1, b2, b3, b4, b5, b6⟩ := hbm
      refine ⟨bm, ob, b1, b2, fun q => ?_, fun q => ?_, hidT_get b3 (free b3 (fun vs n z => by rw [b6] at z; cases z) fun z => by rw [b6] at z; cases z), b4, b5, b6⟩
      · obtain ⟨o, es, ep, e, hd, _⟩ := hns
        rw [q, e] at b3
        cases b3
        rw [hd] at b6
        cases b6
      · rw [q, hTp] at b3
        cases b3
        cases b6
    · obtain ⟨o, es, ep, e, hd, _⟩ := hns
      rw [z, hTp] at e
      cases e
      cases hd
  have hok : HOk P w (H0 K a vs ns cs) s₁.heap := fun b u z => by
    rcases hcase b with ⟨_, n, _⟩ | ⟨e', _, q⟩ | ⟨_, e', q⟩ | ⟨_, _, n⟩
    · rw [n] at z; cases z
    · rw [q] at z
      cases z
      rw [e']
      exact ⟨ha, by rw [List.length_map]; exact hl, vs, _, rv, ha⟩
    · rw [q] at z
      cases z
      exact isT b e'
    · rw [n] at z; cases z
  have hS : SqL K (H0 K a vs ns cs) a (ns.map V.int) := by
    rcases hcase a with ⟨_, _, hk⟩ | ⟨_, _, q⟩ | ⟨n, _⟩ | ⟨n, _⟩
    · obtain ⟨o, hk⟩ := Option.isSome_iff_exists.mp hk
      have e := KX a o hk
      rw [ha] at e
      cases e
      exact .inr ⟨_, vs.toArray, _, hk, rfl, rfl, rfl, by rw [List.size_toArray, lenV]; exact hl, by simpa using rv⟩
    · exact .inl (.inr ⟨_, q⟩)
    · exact absurd rfl n
    · exact absurd rfl n
  have e0 : Env0 P w K mg (hidT s₁.heap (H0 K a vs ns cs)) callerA [] s₁ (H0 K a vs ns cs) := ⟨rfl, hM, fun b o e => of_hidT e, Nat.le_of_eq (hidT_size _ _), trivial, fun b hb => absurd (show b ∈ ([] : List Addr) from hb) (by simp), hok, .of_eq hg⟩
  refine codeAny_mono ((F _ hKb (nsK hns) TB).run callerA [] s₁ (H0 K a vs ns cs) ⟨[.ref a], []⟩ [.ref a] [.ref a] _ _ hr rfl e0 (hbind s₁ [.ref a] KX rfl) (.cons rfl .nil) (hsp _ tabAt hS)) fun r s' h => ?_
  cases r with
  | error e => exact (show False from h).elim
  | ok fl =>
    cases fl with
    | next => exact False.elim h
    | brk => exact False.elim h
    | cont => exact False.elim h
    | ret u =>
      obtain ⟨v, H', os, bare, un, hok', r', q⟩ := h
      have q' : v = .bl true := q
      subst q'
      obtain rfl : u = Value.bool true := r'
      have key : ∀ b o, b ∉ cs.map (·.2) → s₁.heap.get? b = some o → s'.heap.get? b = some o := fun b o nb e => by
        rcases hcase b with ⟨_, n, _⟩ | ⟨_, _, z⟩ | ⟨_, e', _⟩ | ⟨_, _, n⟩
        · exact un.keep b o e n (fun z => absurd (show b ∈ ([] : List Addr) from z) (by simp)) (by simp)
        · have z2 := un.frzs b _ _ z
          obtain ⟨e1, _⟩ := hok b _ z
          obtain ⟨e2, _⟩ := hok' b _ z2
          rw [e] at e1
          cases e1
          exact e2
        · exact absurd e' nb
        · exact un.keep b o e n (fun z => absurd (show b ∈ ([] : List Addr) from z) (by simp)) (by simp)
      have grown : ∀ p ∈ cs, ∃ more : Array Value, s'.heap.get? p.2 = some { cls := .none, data := .fields more } := fun p hp => by
        obtain ⟨more, z⟩ := un.tbls p.2 #[] (tabAt p hp)
        exact ⟨_, hok' p.2 _ z⟩
      refine ⟨rfl, ⟨fun b o e => ?_, fun b o e => ?_⟩, os, bare⟩
      · by_cases hb : b ∈ cs.map (·.2)
        · obtain ⟨p, hp, ep⟩ := List.mem_map.mp hb
          obtain ⟨more, hm⟩ := grown p hp
          rw [← ep] at e ⊢
          rw [hT p hp] at e
          cases e
          exact .inr (.inl ⟨((C p hp).tab (hT p hp)).isCodeTable, rfl, #[], more, rfl, by rw [Array.empty_append]; exact hm⟩)
        · exact .inl (key b o hb e)
      · by_cases hb : b ∈ cs.map (·.2)
        · obtain ⟨p, hp, ep⟩ := List.mem_map.mp hb
          obtain ⟨more, hm⟩ := grown p hp
          rw [← ep]
          exact ⟨_, hm⟩
        · exact ⟨o, key b o hb e⟩
end L3
/-! Comprehensions by what holds of the list so far; heaps that grow. -/
namespace L3
open PySem PySem.Spec PyProof.Rows L2
theorem same_upd {H : Hp} {p : Addr} {o : HO} (h : H p = none) : Same H (upd H p o) := fun b x e => by
  rw [upd_ne (ne_of_none e h)]
  exact e
theorem same_up {H H' : Hp} {p : Addr} {o : HO} (s : Same H H') (h : H p = none) : Same H (upd H' p o) := fun b x e => by
  rw [upd_ne (ne_of_none e h)]
  exact s b x e
/-- a comprehension: R of the heap, A of the list so far -/
theorem lc_gen {J : It} {n : Nat} {G : Hp → Prop} {Y : Nat → Hp → V → Hp → Prop} (w : Walk J n G Y) {g : TG} {tt : TT} {te : TE} {vs : List Nat} {σ : L2.St} {H1 : Hp} {D : Addr} {Qd : Hp → Prop} (R : Hp → Prop) (A : Nat → List V → Prop) (hz : n ≤ sizeLine) (hA : ∀ i acc, A i acc → acc.length ≤ i)
    (h0 : A 0 []) (r0 : R (upd H1 D (.lst []))) (r1 : ∀ H x, R H → R (upd H D x)) (hG : ∀ H, R H → G H)
    (hs : ∀ i x H H' acc (C : VK) (N : Hp → Prop), i < n → R H → H D = some (.lst acc) → A i acc → Y i H x H' → (∀ v H4, R H4 → H4 D = some (.lst acc) → A (i + 1) (acc ++ [v]) → C v H4) → (∀ H3, R H3 → H3 D = some (.lst acc) → A (i + 1) acc → N H3) →
      g x (wipe σ vs) H' fun σ2 H2 => wipe σ2 vs = wipe σ vs ∧ tt σ2 H2 fun b H3 => if b = true then te σ2 H3 C else N H3)
    (hd : ∀ H xs, R H → H D = some (.lst xs) → A n xs → Qd H) :
    ∃ W : Nat → Nat → Hp → Prop, (∃ m, W 0 m (upd H1 D (.lst []))) ∧ ∀ i m H, W i m H →
      (J.stop i H ∧ Qd H) ∨ (J.go i H ∧ ∃ Nx : Hp → Prop, (∀ H', Nx H' → ∃ m', m' < m ∧ W (i + 1) m' H') ∧ ∀ x H', J.yld i H x H' → g x (wipe σ vs) H' fun σ2 H2 => wipe σ2 vs = wipe σ vs ∧ tt σ2 H2 fun b H3 =>
        if b = true then te σ2 H3 fun y H4 => ∃ acc, H4 D = some (.lst acc) ∧ acc.length < sizeLine ∧ Nx (upd H4 D (.lst (acc ++ [y]))) else Nx H3) := by
  refine lc_it w (fun i H => R H ∧ ∃ acc, H D = some (.lst acc) ∧ A i acc) ⟨r0, [], upd_same, h0⟩ (fun i H _ p => hG H p.1) (fun i x H H' hi p y => ?_) fun H p => ?_
  · obtain ⟨rH, acc, hD, ha⟩ := p
    refine hs i x H H' acc _ _ hi rH hD ha y (fun v H4 r4 d4 a4 => ⟨acc, d4, ?_, r1 _ _ r4, _, upd_same, a4⟩) (fun H3 r3 d3 a3 => ⟨r3, acc, d3, a3⟩)
    have := hA i acc ha
    omega
  · obtain ⟨rH, acc, hD, ha⟩ := p
    exact hd H acc rH hD ha
/-- no test -/
theorem yes_te {te : TE} {σ : L2.St} {H : Hp} {C : VK} {N : Hp → Prop} (h : te σ H C) : tYes σ H fun b H3 => if b = true then te σ H3 C else N H3 := by
  show (if true = true then te σ H C else N H)
  rw [if_pos rfl]
  exact h
/-- what R asks where nothing but the new list is made -/
theorem same_r0 {H1 : Hp} {D : Addr} (h : H1 D = none) : Same H1 (upd H1 D (.lst [])) := same_upd h
section
variable {X : Cx}
theorem call_lenT : CallR X (.builtin "len") (fun xs H Q => ∃ l, xs = [tx l] ∧ l.length ≤ sizeLine ∧ Q (.int (l.length : Int)) H) := by
  intro pins s σ H xs us Q I r h
  obtain ⟨l, rfl, hz, q⟩ := h
  exact call_len_str pins s σ H _ us Q I r ⟨_, rfl, by rw [tS_len]; exact hz, by rw [tS_len]; exact q⟩
theorem ix_tx : IxR X (fun x y H Q => ∃ (l : List Nat) (i c : Nat), x = tx l ∧ y = .int (i : Int) ∧ l.length ≤ sizeLine ∧ l[i]? = some c ∧ Q (tx [c]) H) := by
  intro value slice pins s σ H x y v u Q I rx ry h hs
  obtain ⟨l, i, c, rfl, rfl, hz, he, q⟩ := h
  exact ix_str value slice pins s σ H _ _ v u Q I rx ry ⟨_, _, c, rfl, rfl, by rw [tS_len]; exact hz, atI_nat he, q⟩ hs
theorem mt_findT : MtR X "str.find" (fun x xs H Q => ∃ (l : List Nat) (c k : Nat), x = tx l ∧ xs = [tx [c], .int (k : Int)] ∧ ((∀ v : Nat, k ≤ v → l[v]? ≠ some c) → Q (.int (-1)) H) ∧
    ∀ j : Nat, k ≤ j → l[j]? = some c → (∀ v : Nat, k ≤ v → v < j → l[v]? ≠ some c) → Q (.int (j : Int)) H) := by
  intro pins s σ H x xs v us Q I rx r h
  obtain ⟨l, c, k, rfl, rfl, q1, q2⟩ := h
  refine mt_find3 pins s σ H _ _ v us Q I rx r ⟨_, _, _, rfl, rfl, ?_⟩
  have hf : fromIndex (tS l).length (k : Int) = k := by
    unfold fromIndex
    rw [if_neg (by omega)]
    omega
  have hg : ∀ v, v < l.length → ((tS l).cps.getD v 0 = c ↔ l[v]? = some c) := fun v hv => by
    have e : (tS l).cps.getD v 0 = l[v] := by simp [tS, Array.getD, hv]
    rw [e, List.getElem?_eq_getElem hv]
    constructor
    · rintro rfl; rfl
    · exact fun z => Option.some.inj z
  rcases StrLaws.find3_spec (tS l) c (k : Int) with ⟨e, hn⟩ | ⟨j, e, h1, h2, h3, h4⟩
  · rw [show Txt.find3 (tS l) (tS [c]) (k : Int) = -1 from e]
    refine q1 fun v hv z => ?_
    have hlt := (List.getElem?_eq_some_iff.mp z).1
    rw [hf] at hn
    exact hn v hv (by rw [tS_len]; exact hlt) ((hg v hlt).mpr z)
  · rw [show Txt.find3 (tS l) (tS [c]) (k : Int) = (j : Int) from e]
    rw [hf] at h1 h4
    rw [tS_len] at h2
    exact q2 j h1 ((hg j h2).mp h3) fun v hv hj z => h4 v hv hj ((hg v (by omega)).mpr z)
end
theorem walk_tx {l : List Nat} : Walk (Its (tS l)) l.length (fun _ => True) (fun i H v H' => H' = H ∧ ∃ c, l[i]? = some c ∧ v = tx [c]) := by
  have e : (tS l).cps.size = l.length := tS_len l
  refine ⟨fun i _ hi _ => ?_, fun _ _ => ?_, fun i H v H' _ _ y => ?_⟩
  · show i < (tS l).cps.size
    rw [e]; exact hi
  · show (tS l).cps.size ≤ l.length
    rw [e]; exact Nat.le_refl _
  · obtain ⟨h1, c, h2, h3⟩ := y
    exact ⟨h1, c, by simpa [tS] using h2, h3⟩
/-- a def whose code object is told -/
theorem okC {P : Program} {w : World} {K : PySem.W.Frag} {mg : Str → Option Value} {base : Heap} {x qual : Str} {st : Stmt} {f : Addr} {fd : FuncData} {N ps : List Str} {k : Nat} {sp : Sp} (F : Fun K x qual st f fd) (S : FnScope N ps (defScope st)) (len : ∀ vs H Q E, sp vs H Q E → vs.length = ps.length)
    (hbody : ∀ (A : Around) (outer : List Env) (s : Shared) (H : Hp) (vs : List V) (Q : VK) (E : XK), Room k (A.deeper (envOfC qual (defScope st) s.heap.objs.size f fd.code)) → A.guards = some [] → sp vs H Q E →
      ∃ t, PSs (cxOf CX0 P w K mg base N qual (defScope st) f fd.code A outer s H E).nox (defBody st) t ∧ t { nx := fun _ H' => Q .non H', rt := Q } (L2.start N vs) H) : FnOkG P w K mg base CX0 (k + 1) f fd ps sp := by
  obtain ⟨oc, od, kV, doc, pm, an, cdv, ct, osl, rfl, lk, hcd⟩ := F.ex
  refine fn_ofG lk hcd S len fun A outer s H vs Q E hr hg hsp => ?_
  obtain ⟨t, h, q⟩ := hbody A outer s H vs Q E hr hg hsp
  exact ⟨t, h.nox, q⟩
end L3
/-! Data that is shown: texts, ints, bools in lists. Calls with keywords alone. -/
namespace L3
open PySem PySem.Spec PyProof.Rows L2
/-- what repr asks of data -/
structure Shw (d : PyData) : Prop where
  s : d.showable = true
  z : d.shown.length ≤ sizeLine
  p : d.depth ≤ 50
def dTx (ls : List (List Nat)) : List PyData := ls.map fun l => PyData.str (tS l)
theorem dp_txs {K : PySem.W.Frag} {H : Hp} : ∀ ls : List (List Nat), DpAll K H (ls.map tx) (dTx ls)
  | [] => .nil
  | l :: ls => .cons (.str _) (dp_txs ls)
theorem showAll_txs : ∀ ls : List (List Nat), PyData.showableAll (dTx ls) = true
  | [] => rfl
  | l :: ls => by
    show (PyData.showable (.str (tS l)) && PyData.showableAll (dTx ls)) = true
    rw [showAll_txs ls]
    rfl
theorem depthAll_txs : ∀ ls : List (List Nat), PyData.depthAll (dTx ls) = 0
  | [] => rfl
  | l :: ls => by
    show max (PyData.depth (.str (tS l))) (PyData.depthAll (dTx ls)) = 0
    rw [depthAll_txs ls]
    simp [PyData.depth]
theorem leavesAll_txs {B : Nat} : ∀ ls : List (List Nat), (∀ l ∈ ls, ∀ c ∈ l, c < 1114112) → PyData.leavesShortAll B (dTx ls) = true
  | [], _ => rfl
  | l :: ls, h => by
    show (PyData.leavesShort B (.str (tS l)) && PyData.leavesShortAll B (dTx ls)) = true
    rw [leavesAll_txs ls fun l' hl => h l' (List.mem_cons_of_mem _ hl), Bool.and_true]
    simp only [PyData.leavesShort, List.all_eq_true, decide_eq_true_eq]
    intro c hc
    have := h l List.mem_cons_self c (by simpa [tS] using hc)
    have e : 16 ^ 8 = 4294967296 := by decide
    omega
theorem weightAll_txs {B : Nat} : ∀ ls : List (List Nat), (∀ l ∈ ls, l.length ≤ B) → PyData.weightAll (dTx ls) ≤ (B + 1) * ls.length
  | [], _ => Nat.zero_le _
  | l :: ls, h => by
    have ih := weightAll_txs ls fun l' hl => h l' (List.mem_cons_of_mem _ hl)
    have h1 := h l List.mem_cons_self
    show PyData.weight (.str (tS l)) + 1 + PyData.weightAll (dTx ls) ≤ _
    have e : PyData.weight (.str (tS l)) = l.length := by simp [PyData.weight, tS]
    rw [e, List.length_cons, Nat.mul_succ]
    omega
theorem shw_txs {B n : Nat} {ls : List (List Nat)} (hc : ∀ l ∈ ls, ∀ c ∈ l, c < 1114112) (hl : ∀ l ∈ ls, l.length ≤ B) (hn : ls.length ≤ n) (hBn : (B + 1) * n ≤ 1048576) : Shw (.list (dTx ls)) := by
  refine ⟨?_, PyData.shown_fits (B := 8) (by decide) (by decide) ?_ ?_, ?_⟩
  · simp only [PyData.showable]; exact showAll_txs ls
  · simp only [PyData.leavesShort]; exact leavesAll_txs ls hc
  · simp only [PyData.weight]
    have h1 := weightAll_txs ls hl
    have h2 : (B + 1) * ls.length ≤ (B + 1) * n := Nat.mul_le_mul_left _ hn
    have e : (2 : Nat) ^ 20 = 1048576 := by decide
    omega
  · simp only [PyData.depth, depthAll_txs]; decide
theorem shw_bl (b : Bool) : Shw (.bool b) := ⟨by simp [PyData.showable], by cases b <;> decide +kernel, by simp [PyData.depth]⟩
theorem shw_bls (bs : List Bool) (h : bs.length ≤ 1000) : Shw (.list (bs.map PyData.bool)) := by
  have a1 : ∀ bs : List Bool, PyData.showableAll (bs.map PyData.bool) = true := fun bs => by
    induction bs with
    | nil => rfl
    | cons b bs ih => show (PyData.showable (.bool b) && _) = true; rw [ih]; rfl
  have a2 : ∀ bs : List Bool, PyData.leavesShortAll 8 (bs.map PyData.bool) = true := fun bs => by
    induction bs with
    | nil => rfl
    | cons b bs ih => show (PyData.leavesShort 8 (.bool b) && _) = true; rw [ih]; rfl
  have a3 : ∀ bs : List Bool, PyData.weightAll (bs.map PyData.bool) = bs.length := fun bs => by
    induction bs with
    | nil => rfl
    | cons b bs ih => show PyData.weight (.bool b) + 1 + PyData.weightAll (bs.map PyData.bool) = _; rw [ih]; simp [PyData.weight]; omega
  have a4 : ∀ bs : List Bool, PyData.depthAll (bs.map PyData.bool) = 0 := fun bs => by
    induction bs with
    | nil => rfl
    | cons b bs ih => show max (PyData.depth (.bool b)) _ = 0; rw [ih]; simp [PyData.depth]
  refine ⟨?_, PyData.shown_fits (B := 8) (by decide) (by decide) ?_ ?_, ?_⟩
  · simp only [PyData.showable]; exact a1 bs
  · simp only [PyData.leavesShort]; exact a2 bs
  · simp only [PyData.weight, a3]
    have e : (2 : Nat) ^ 20 = 1048576 := by decide
    omega
  · simp only [PyData.depth, a4]; decide
theorem shw_ints (ns : List Int) (h : ns.length ≤ 1000) (hn : ∀ n ∈ ns, n.natAbs < 1000000000) : Shw (.list (ns.map PyData.int)) := by
  have hlog : ∀ n : Int, n.natAbs < 1000000000 → n.natAbs.log2 < 30 := fun n h => by
    by_cases e : n.natAbs = 0
    · rw [e]; decide
    · exact (Nat.log2_lt e).mpr (Nat.lt_trans h (by decide))
  have hlen : ∀ n : Int, n.natAbs < 1000000000 → (PyData.shown (.int n)).length ≤ 10 := fun n h => by
    have e := int_text_length_le10 (a := n) (k := 9) (by decide) h
    simp only [PyData.shown]
    rw [PySem.ofString_length]
    omega
  have a1 : ∀ ns : List Int, (∀ n ∈ ns, n.natAbs < 1000000000) → PyData.showableAll (ns.map PyData.int) = true := fun ns => by
    induction ns with
    | nil => intro _; rfl
    | cons b bs ih =>
      intro h
      show (PyData.showable (.int b) && _) = true
      rw [ih fun n hn => h n (List.mem_cons_of_mem _ hn), Bool.and_true]
      simp only [PyData.showable, decide_eq_true_eq]
      have := hlog b (h b List.mem_cons_self)
      omega
  have a2 : ∀ ns : List Int, (∀ n ∈ ns, n.natAbs < 1000000000) → PyData.leavesShortAll 10 (ns.map PyData.int) = true := fun ns => by
    induction ns with
    | nil => intro _; rfl
    | cons b bs ih =>
      intro h
      show (PyData.leavesShort 10 (.int b) && _) = true
      rw [ih fun n hn => h n (List.mem_cons_of_mem _ hn), Bool.and_true]
      simp only [PyData.leavesShort, decide_eq_true_eq]
      exact hlen b (h b List.mem_cons_self)
  have a3 : ∀ ns : List Int, (∀ n ∈ ns, n.natAbs < 1000000000) → PyData.weightAll (ns.map PyData.int) ≤ 32 * ns.length := fun ns => by
    induction ns with
    | nil => intro _; exact Nat.zero_le _
    | cons b bs ih =>
      intro h
      have i1 := ih fun n hn => h n (List.mem_cons_of_mem _ hn)
      have i2 := hlog b (h b List.mem_cons_self)
      show PyData.weight (.int b) + 1 + PyData.weightAll (bs.map PyData.int) ≤ _
      have e : PyData.weight (.int b) ≤ 30 := by
        simp only [PyData.weight]
        split <;> omega
      rw [List.length_cons]
      omega
  have a4 : ∀ ns : List Int, PyData.depthAll (ns.map PyData.int) = 0 := fun ns => by
    induction ns with
    | nil => rfl
    | cons b bs ih => show max (PyData.depth (.int b)) _ = 0; rw [ih]; simp [PyData.depth]
  refine ⟨?_, PyData.shown_fits (B := 10) (by decide) (by decide) ?_ ?_, ?_⟩
  · simp only [PyData.showable]; exact a1 ns hn
  · simp only [PyData.leavesShort]; exact a2 ns hn
  · simp only [PyData.weight]
    have h1 := a3 ns hn
    have e : (2 : Nat) ^ 20 = 1048576 := by decide
    omega
  · simp only [PyData.depth, a4]; decide
theorem dp_bls {K : PySem.W.Frag} {H : Hp} : ∀ bs : List Bool, DpAll K H (bs.map V.bl) (bs.map PyData.bool)
  | [] => .nil
  | b :: bs => .cons (.bl b) (dp_bls bs)
theorem dp_ints {K : PySem.W.Frag} {H : Hp} : ∀ ns : List Int, DpAll K H (ns.map V.int) (ns.map PyData.int)
  | [] => .nil
  | b :: bs => .cons (.int b) (dp_ints bs)
/-! ### calls with keywords alone -/
def k1 {α : Type} : List α → List α → List α
  | [], [w] => [w]
  | _, _ => []
def k2 {α : Type} : List α → List α → List α
  | [], [w, v] => [v, w]
  | _, _ => []
theorem k1_rel : ∀ {vs : List V} {us : List Value} {zs : List V} {ws : List Value}, Vals vs us → Vals zs ws → Vals (k1 vs zs) (k1 us ws)
  | _, _, _, _, .nil, .nil => .nil
  | _, _, _, _, .nil, .cons r .nil => .cons r .nil
  | _, _, _, _, .nil, .cons _ (.cons _ _) => .nil
  | _, _, _, _, .cons _ _, .nil => .nil
  | _, _, _, _, .cons _ _, .cons _ _ => .nil
theorem k2_rel : ∀ {vs : List V} {us : List Value} {zs : List V} {ws : List Value}, Vals vs us → Vals zs ws → Vals (k2 vs zs) (k2 us ws)
  | _, _, _, _, .nil, .nil => .nil
  | _, _, _, _, .nil, .cons _ .nil => .nil
  | _, _, _, _, .nil, .cons r (.cons s .nil) => .cons s (.cons r .nil)
  | _, _, _, _, .nil, .cons _ (.cons _ (.cons _ _)) => .nil
  | _, _, _, _, .cons _ _, .nil => .nil
  | _, _, _, _, .cons _ _, .cons _ _ => .nil
/-- f(n = v) -/
theorem kb1 {K : PySem.W.Frag} {x n : Str} {st : Stmt} {f : Addr} {fd : FuncData} (F : Fun K x x st f fd)
    (h : ∀ (kV doc pm : Value) (an : Option Addr) (cdv ct w : Value), bindArgs (PySem.W.fnOf x x (defArgs st) (defBody st) (defScope st) .none kV doc pm an cdv ct) ⟨[], [(n, w)]⟩ = pure [(n, w)]) : KBinds K fd [n] [n] k1 k1 := by
  refine ⟨fun s us ws X hl => ?_, k1_rel⟩
  obtain ⟨oc, od, kV, doc, pm, an, cdv, ct, osl, rfl, lk, hcd⟩ := F.ex
  match us, ws, hl with
  | [], [w], _ => exact .of_eq (h kV doc pm an cdv ct w)
/-- f(m = v, n = w), the other way round -/
theorem kb2 {K : PySem.W.Frag} {x n m : Str} {st : Stmt} {f : Addr} {fd : FuncData} (F : Fun K x x st f fd)
    (h : ∀ (kV doc pm : Value) (an : Option Addr) (cdv ct w v : Value), bindArgs (PySem.W.fnOf x x (defArgs st) (defBody st) (defScope st) .none kV doc pm an cdv ct) ⟨[], [(m, w), (n, v)]⟩ = pure [(n, v), (m, w)]) : KBinds K fd [n, m] [m, n] k2 k2 := by
  refine ⟨fun s us ws X hl => ?_, k2_rel⟩
  obtain ⟨oc, od, kV, doc, pm, an, cdv, ct, osl, rfl, lk, hcd⟩ := F.ex
  match us, ws, hl with
  | [], [w, v], _ => exact .of_eq (h kV doc pm an cdv ct w v)
end L3
/-! min of texts, with key= or not; what the order of keys says. -/
namespace L3
open PySem PySem.Spec PyProof.Rows L2
/-- the order of keys -/
def kLt (x y : Int × List Nat) : Prop := x.1 < y.1 ∨ (x.1 = y.1 ∧ x.2 < y.2)
instance (x y : Int × List Nat) : Decidable (kLt x y) := by unfold kLt; exact inferInstance
theorem lexStr (a b : List Nat) : PyProof.Rows.lexLt PyProof.Rows.itemOrd [Sum.inr a, Sum.inl 0] [Sum.inr b, Sum.inl 0] = decide (a < b) := by
  by_cases e : a = b
  · subst e
    rw [PyProof.Rows.lex_self]
    rw [decide_eq_false (List.lt_irrefl a)]
    decide +kernel
  · rw [PyProof.Rows.lex_diff (O := PyProof.Rows.itemOrd) (fun z => e (Sum.inr.inj z))]
    rfl
theorem dLt_key (kf : KF) (a b : List Nat) : PySem.W.dataLt (kD kf a) (kD kf b) = decide (kLt (kf a) (kf b)) := by
  show PyProof.Rows.lexLt PyProof.Rows.itemOrd [Sum.inl 1, Sum.inl (kf a).1, Sum.inl 1, Sum.inr (kf a).2, Sum.inl 0] [Sum.inl 1, Sum.inl (kf b).1, Sum.inl 1, Sum.inr (kf b).2, Sum.inl 0] = _
  rw [PyProof.Rows.lex_self]
  by_cases e : (kf a).1 = (kf b).1
  · rw [e, PyProof.Rows.lex_self, PyProof.Rows.lex_self, lexStr]
    refine decide_eq_decide.mpr ⟨fun h => .inr ⟨e, h⟩, fun h => ?_⟩
    rcases h with h | h
    · omega
    · exact h.2
  · rw [PyProof.Rows.lex_diff (O := PyProof.Rows.itemOrd) (fun z => e (Sum.inl.inj z))]
    show decide ((kf a).1 < (kf b).1) = _
    refine decide_eq_decide.mpr ⟨fun h => .inl h, fun h => ?_⟩
    rcases h with h | h
    · exact h
    · exact absurd h.1 e
theorem dLt_str (a b : List Nat) : PySem.W.dataLt (.str (tS a)) (.str (tS b)) = decide (a < b) := by
  show PyProof.Rows.lexLt PyProof.Rows.itemOrd [Sum.inr a] [Sum.inr b] = _
  by_cases e : a = b
  · subst e
    rw [PyProof.Rows.lex_self]
    rw [decide_eq_false (List.lt_irrefl a)]
    decide +kernel
  · rw [PyProof.Rows.lex_diff (O := PyProof.Rows.itemOrd) (fun z => e (Sum.inr.inj z))]
    rfl
theorem kLt_irr (x : Int × List Nat) : ¬ kLt x x := fun h => by
  rcases h with h | h
  · omega
  · exact List.lt_irrefl _ h.2
theorem kLt_tr {x y z : Int × List Nat} (a : kLt x y) (b : kLt y z) : kLt x z := by
  rcases a with a | ⟨a, a'⟩ <;> rcases b with b | ⟨b, b'⟩
  · exact .inl (by omega)
  · exact .inl (by omega)
  · exact .inl (by omega)
  · exact .inr ⟨by omega, List.lt_trans a' b'⟩
theorem kLt_ntr {x y z : Int × List Nat} (a : ¬ kLt y x) (b : ¬ kLt z y) : ¬ kLt z x := fun h => by
  unfold kLt at a b h
  have le1 : ¬ y.2 < x.2 → ¬ z.2 < y.2 → ¬ z.2 < x.2 := fun h1 h2 => List.not_lt.mpr (List.le_trans (List.not_lt.mp h1) (List.not_lt.mp h2))
  by_cases e1 : y.1 = x.1
  · by_cases e2 : z.1 = y.1
    · have n1 : ¬ y.2 < x.2 := fun k => a (.inr ⟨e1, k⟩)
      have n2 : ¬ z.2 < y.2 := fun k => b (.inr ⟨e2, k⟩)
      rcases h with h | h
      · omega
      · exact le1 n1 n2 h.2
    · have : ¬ z.1 < y.1 := fun k => b (.inl k)
      rcases h with h | h <;> omega
  · have h1 : ¬ y.1 < x.1 := fun k => a (.inl k)
    have h2 : ¬ z.1 < y.1 := fun k => b (.inl k)
    rcases h with h | h <;> omega
/-- the sorted list goes up -/
theorem sortT_up (kf : KF) (ts : List (List Nat)) : (sortT kf ts).Pairwise fun a b => ¬ kLt (kf b) (kf a) := by
  have hle : ∀ a b : List Nat, PySem.W.dataLe false (kD kf) a b = true ↔ ¬ kLt (kf b) (kf a) := fun a b => by
    show (!PySem.W.dataLt (kD kf b) (kD kf a)) = true ↔ _
    rw [dLt_key, Bool.not_eq_true', decide_eq_false_iff_not]
  have h := List.pairwise_mergeSort (le := PySem.W.dataLe false (kD kf)) (fun a b c h1 h2 => (hle a c).mpr (kLt_ntr ((hle a b).mp h1) ((hle b c).mp h2))) (fun a b => by
    by_cases e : kLt (kf b) (kf a)
    · rw [Bool.or_eq_true]; exact .inr ((hle b a).mpr fun k => kLt_irr _ (kLt_tr e k))
    · rw [Bool.or_eq_true]; exact .inl ((hle a b).mpr e)) ts
  exact h.imp fun {a b} k => (hle a b).mp k
theorem sortT_head {kf : KF} {ts : List (List Nat)} {m : List Nat} (h : (sortT kf ts)[0]? = some m) : m ∈ ts ∧ ∀ y ∈ ts, ¬ kLt (kf y) (kf m) := by
  have hp := sortT_perm kf ts
  have hu := sortT_up kf ts
  cases e : sortT kf ts with
  | nil => rw [e] at h; cases h
  | cons a l =>
    rw [e] at h hp hu
    cases h
    refine ⟨hp.mem_iff.mp List.mem_cons_self, fun y hy => ?_⟩
    rcases List.mem_cons.mp (hp.mem_iff.mpr hy) with rfl | hm
    · exact kLt_irr _
    · exact (List.pairwise_cons.mp hu).1 y hm
theorem argBest_min {bt : Nat → Nat → Bool} (irr : ∀ i, bt i i = false) (tr : ∀ i j k, bt i j = true → bt j k = true → bt i k = true) : ∀ k, argBest bt k ≤ k ∧ ∀ j, j ≤ k → bt j (argBest bt k) = false
  | 0 => ⟨Nat.le_refl _, fun j hj => by rw [Nat.le_zero.mp hj]; exact irr 0⟩
  | k + 1 => by
    obtain ⟨h1, h2⟩ := argBest_min irr tr k
    have e : argBest bt (k + 1) = if bt (k + 1) (argBest bt k) then k + 1 else argBest bt k := rfl
    rw [e]
    by_cases c : bt (k + 1) (argBest bt k) = true
    · rw [if_pos c]
      refine ⟨Nat.le_refl _, fun j hj => ?_⟩
      by_cases ej : j = k + 1
      · rw [ej]; exact irr _
      · cases hb : bt j (k + 1) with
        | false => rfl
        | true =>
          have := h2 j (by omega)
          rw [tr j (k + 1) _ hb c] at this
          cases this
    · rw [if_neg c]
      refine ⟨by omega, fun j hj => ?_⟩
      by_cases ej : j = k + 1
      · rw [ej]; simpa using c
      · exact h2 j (by omega)
section
variable {X : Cx} {pins : List (Addr × Obj)} {σ : L2.St} {H : Hp} {s : Shared}
/-- min(texts) -/
def rMinT (K : PySem.W.Frag) : List V → Hp → VK → Prop := fun vs H Q => ∃ (a : Addr) (ts : List (List Nat)), vs = [.ref a] ∧ SqL K H a (ts.map tx) ∧ ts ≠ [] ∧ ∀ m, m ∈ ts → (∀ y ∈ ts, ¬ y < m) → Q (tx m) H
theorem minD_txs : ∀ (ls : List (List Nat)) (l : List Nat), ∃ m, PySem.W.minD (.str (tS l)) (dTx ls) = .str (tS m) ∧ m ∈ l :: ls ∧ ∀ y ∈ l :: ls, ¬ y < m
  | [], l => ⟨l, rfl, List.mem_cons_self, fun y hy => by
      simp only [List.mem_singleton] at hy
      rw [hy]; exact List.lt_irrefl l⟩
  | b :: ls, l => by
    show ∃ m, PySem.W.minD (if PySem.W.dataLt (.str (tS b)) (.str (tS l)) = true then .str (tS b) else .str (tS l)) (dTx ls) = .str (tS m) ∧ _
    rw [dLt_str]
    by_cases c : b < l
    · rw [if_pos (decide_eq_true c)]
      obtain ⟨m, h1, h2, h3⟩ := minD_txs ls b
      refine ⟨m, h1, List.mem_cons_of_mem _ h2, fun y hy => ?_⟩
      rcases List.mem_cons.mp hy with rfl | hy
      · exact fun z => h3 b List.mem_cons_self (List.lt_trans c z)
      · exact h3 y hy
    · rw [if_neg (by simpa using c)]
      obtain ⟨m, h1, h2, h3⟩ := minD_txs ls l
      refine ⟨m, h1, ?_, fun y hy => ?_⟩
      · rcases List.mem_cons.mp h2 with rfl | h2
        · exact List.mem_cons_self
        · exact List.mem_cons_of_mem _ (List.mem_cons_of_mem _ h2)
      · rcases List.mem_cons.mp hy with rfl | hy
        · exact h3 _ List.mem_cons_self
        · rcases List.mem_cons.mp hy with rfl | hy
          · have h4 := h3 l List.mem_cons_self
            exact List.not_lt.mpr (List.le_trans (List.not_lt.mp h4) (List.not_lt.mp c))
          · exact h3 y (List.mem_cons_of_mem _ hy)
theorem reads_txs {h : Heap} : ∀ {ts : List (List Nat)} {vs : List Value}, Vals (ts.map tx) vs → ∃ as, ReadsAll h vs (dTx ts) as
  | [], _, r => by cases r; exact ⟨_, .nil⟩
  | _ :: _, _, r => by
    cases r with
    | cons r1 r2 =>
      obtain ⟨t, rfl⟩ := r1
      obtain ⟨as, k⟩ := reads_txs (h := h) r2
      exact ⟨_, .cons (.str _ _) k⟩
theorem cr_minT {k : Nat} (hc : X.calm = true) (hr : Room k X.A) : CallR X (.builtin "min") (rMinT X.K) := by
  intro pins s σ H vs us Q I r h
  obtain ⟨a, ts, rfl, hs, hne, q⟩ := h
  obtain ⟨its, rv, hl, _⟩ := I.list hs
  rw [Vals.ref1 r]
  cases ts with
  | nil => exact absurd rfl hne
  | cons l ls =>
    obtain ⟨as, hR⟩ := reads_txs (h := s.heap) rv
    have hdep : PyData.depthAll (dTx (l :: ls)) = 0 := depthAll_txs _
    have hu := hr.units
    refine PySem.W.min_list_data (I.ok.hd hc) hl.isList (x := .str (tS l)) (xs := dTx ls) hR ⟨fun x hx y hy => ?_, fun x hx => ?_⟩ (by show X.A.units + 1 + PyData.depthAll (dTx (l :: ls)) < cLine; rw [hdep]; omega) fun i v h' tk bs hi hRd hk => ?_
    · obtain ⟨x', _, rfl⟩ := List.mem_map.mp (show x ∈ dTx (l :: ls) from hx)
      obtain ⟨y', _, rfl⟩ := List.mem_map.mp (show y ∈ dTx (l :: ls) from hy)
      rfl
    · obtain ⟨x', _, rfl⟩ := List.mem_map.mp (show x ∈ dTx (l :: ls) from hx)
      exact fun z => by cases z
    · obtain ⟨m, h1, h2, h3⟩ := minD_txs ls l
      rw [h1] at hRd
      cases hRd
      exact ⟨tx m, H, I.kept hk, ⟨_, rfl⟩, q m h2 h3⟩
end
end L3
/-! min(texts, key=f), f a def. -/
namespace L3
open PySem PySem.Spec PyProof.Rows L2
section
variable {X : Cx} {pins : List (Addr × Obj)} {σ : L2.St} {H : Hp} {s : Shared}
theorem Inv.env00 (I : L2.Inv X pins σ H s) : Env0 X.prog X.w X.K X.mg X.base X.A X.stack s (fun _ => none) :=
  ⟨I.env0.frames, I.env0.mod, fun b o e => ⟨(I.env0.bs b o e).1, rfl⟩, I.env0.bsz, I.env0.funs, fun _ _ => rfl, (fun a o e => by cases e), I.env0.bare⟩
/-- a def that gives a key, run with nothing tracked: all that stood stays -/
theorem kcall_raw {k : Nat} {f : Addr} {fd : FuncData} {x : Str} {kf : KF} {l : List Nat} {t : Tok} {Q : Value → Shared → Prop} {E : Value → Shared → Prop} (F : FnOk X.prog X.w X.K X.mg X.base CX0 k f fd [x] (spKey kf)) (hr : Room (k + 1) X.A) (hb : L2.Binds X.K fd [x] []) (I : L2.Inv X pins σ H s) (hl : l.length ≤ sizeLine)
    (h : ∀ p s', L2.Inv X pins σ H s' → (∀ b o, s.heap.get? b = some o → b ∉ frs X.stack → s'.heap.get? b = some o) → s.heap.get? p = none → (∃ its, Vals [.int (kf l).1, tx (kf l).2] its ∧ IsTup s'.heap p its.toArray) → Q (.ref p) s') :
    wpAny (model X.prog X.w) X.A.in1 (call (.ref f) [.str (tS l) t]) Q E s := by
  have hb' : BindsTo s fd ⟨[.str (tS l) t], []⟩ ([x].zip [.str (tS l) t]) := hb s [.str (tS l) t] I.kIn rfl
  refine wpAny_call (codeAny_mono (F.run X.A.in1 X.stack s (fun _ => none) ⟨[.str (tS l) t], []⟩ [.str (tS l) t] [tx l] (fun v H' => ∃ p, v = .ref p ∧ H' p = some (.tup [.int (kf l).1, tx (kf l).2])) E0 hr.in1 (Inv.env00 I).in1 hb' (.cons ⟨t, rfl⟩ .nil) ⟨l, rfl, hl, fun H' p s1 hp => ⟨p, rfl, hp⟩⟩) fun r s' hq => ?_)
  cases r with
  | error e => exact (show False from hq).elim
  | ok fl =>
    cases fl with
    | ret u =>
      obtain ⟨v, H', os, bare, un, hok, rv, p, rfl, hp⟩ := hq
      cases rv
      have kp : ∀ b o, s.heap.get? b = some o → b ∉ frs X.stack → s'.heap.get? b = some o := fun b o e n => un.keep b o e rfl n (by simp)
      have tr : ∀ b u, H b = some u → b ∉ frs X.stack := fun b u e hb => by
        rw [I.stkFree b hb] at e
        cases e
      refine h p s' (I.call' (ch := []) os ⟨fun b o e _ nf _ => kp b o e nf, fun b o e _ bf bx => un.slot b o e rfl bf bx, fun b o _ n _ => n, un.there, fun _ _ e => e, fun _ _ _ e => e, fun b ps e => ⟨#[], by rw [e]; simp⟩⟩ (fun b u q => ?_) bare (fun b hb => by simp at hb)) kp ?_ ?_
      · refine (I.hok b u q).stay (fun d v hd q' => ?_) (fun _ e => e) fun _ _ e => e
        rcases hd with rfl | hd
        · exact kp _ _ q' (tr _ _ q)
        · exact kp _ _ q' (tr _ _ hd)
      · cases hlt : s.heap.get? p with
        | none => rfl
        | some o =>
          have := un.free p o hlt rfl (by simp)
          rw [this] at hp
          cases hp
      · obtain ⟨_, its, r, T⟩ := hok p _ hp
        exact ⟨its, r, T⟩
    | next => exact False.elim hq
    | brk => exact False.elim hq
    | cont => exact False.elim hq
theorem key_reads {h : Heap} {p : Addr} {kf : KF} {l : List Nat} {its : List Value} (r : Vals [.int (kf l).1, tx (kf l).2] its) (T : IsTup h p its.toArray) : ∃ as, Reads h (.ref p) (kD kf l) as := by
  obtain ⟨o, ho, hc, n, hd⟩ := T
  cases r with
  | cons r1 r2 =>
    cases r2 with
    | cons r2 r3 =>
      cases r3
      obtain ⟨t1, rfl⟩ := r1
      obtain ⟨t2, rfl⟩ := r2
      exact ⟨_, .tuple ho hc hd (.cons (.int _ _) (.cons (.str _ _) .nil))⟩
def rMinKey (f : Addr) (kf : KF) : List V → List V → Hp → VK → Prop := fun vs zs H Q => ∃ (a : Addr) (ts : List (List Nat)), vs = [.ref a] ∧ zs = [.ref f] ∧ H a = some (.lst (ts.map tx)) ∧ ts ≠ [] ∧ (∀ l ∈ ts, l.length ≤ sizeLine) ∧
  ∀ m, m ∈ ts → (∀ y ∈ ts, ¬ kLt (kf y) (kf m)) → Q (tx m) H
theorem cr_minKey {k : Nat} {f : Addr} {fd : FuncData} {x : Str} {kf : KF} (hc : X.calm = true) (F : FnOk X.prog X.w X.K X.mg X.base CX0 k f fd [x] (spKey kf)) (hr : Room (k + 1) X.A) (hb : L2.Binds X.K fd [x] []) : CallRK X (.builtin "min") [Str.ofString "key"] (rMinKey f kf) := by
  intro pins s σ H vs zs us ws Q I r rz h
  obtain ⟨a, ts, rfl, rfl, hS, hne, hl, q⟩ := h
  obtain rfl := Vals.ref1 r
  obtain rfl := Vals.ref1 rz
  obtain ⟨its, rv, hL, hz⟩ := I.list (show SqL X.K H a (ts.map tx) from .inl (.inl hS))
  have hlen : its.length = ts.length := by rw [← rv.length, List.length_map]
  have hu := hr.units
  have eS := each_strs rv
  have hval : ∀ (i : Nat) (v : Value), its.toArray[i]? = some v → ∃ t, v = Value.str (tS (ts.getD i [])) t := fun i v hx => by
    rw [List.getElem?_toArray] at hx
    have hi : i < its.length := (List.getElem?_eq_some_iff.mp hx).1
    have hlj : ts[i]? = some (ts.getD i []) := by
      rw [List.getD_eq_getElem?_getD, List.getElem?_eq_getElem (by omega)]
      rfl
    exact eS.zip (v, ts.getD i []) (List.mem_of_getElem? (i := i) (by rw [List.getElem?_zip_eq_some]; exact ⟨hx, hlj⟩))
  have haf : a ∉ frs X.stack := fun hb => by rw [I.stkFree a hb] at hS; cases hS
  refine call_min_walkK (PySem.W.iter_listW (A := X.A.in1) (I.ok.hd hc) hL.isList fun s₂ e W st hfp hw hk => ?_)
  have hit := above_ok (it := s.heap.objs.size) I (Nat.le_refl _)
  have hn1 : H s.heap.objs.size = none := I.hok.fresh (Nat.le_refl _)
  have hsz : s₂.heap.objs.size = s.heap.objs.size + 1 := by rw [e]; exact Heap.size_push _ _
  have hS2 := above_ok (it := s₂.heap.objs.size) I (by rw [hsz]; exact Nat.le_succ _)
  have hn2 : H s₂.heap.objs.size = none := I.hok.fresh (by rw [hsz]; exact Nat.le_succ _)
  have I2 : L2.Inv X pins σ H s₂ := by rw [e]; exact I.kept (t' := s.toks) fun b o q => Heap.get?_push_of_some _ q
  refine ⟨_, _, _, _, _, _, _, L2.Inv X pins σ H, fun i kv s' => ∃ p, kv = .ref p ∧ p ≠ s₂.heap.objs.size ∧ p ≠ s.heap.objs.size ∧ p ∉ frs X.stack ∧ ∃ its, Vals [.int (kf (ts.getD i [])).1, tx (kf (ts.getD i [])).2] its ∧ IsTup s'.heap p its.toArray,
    fun i j => PySem.W.dataLt (kD kf (ts.getD i [])) (kD kf (ts.getD j [])), rfl, W, st, hfp, ?_, ⟨?_, ?_, ?_, ?_⟩, I2, ?_⟩
  · rw [List.size_toArray, hlen]
    exact List.length_pos_iff.mpr hne
  · intro s1 s2 J m
    obtain ⟨h', g', d', t', o'⟩ := s2
    have e1 : o' = s1.os := m.os
    have e2 : g' = s1.gens := m.gens
    have e3 : d' = s1.drawn := m.drawn
    subst e1 e2 e3
    refine J.turnedL (ch := [s₂.heap.objs.size, s.heap.objs.size]) (fun b o hb q => m.heap b o hb q) fun b hb => ?_
    simp only [List.mem_cons, List.not_mem_nil, or_false] at hb
    rcases hb with rfl | rfl
    · exact I.fpOk (by rw [hsz]; exact Nat.le_succ _) hn2
    · exact I.fpOk (Nat.le_refl _) hn1
  · rintro i kv s1 s2 ⟨p, rfl, p1, p2, p3, its', r', o, ho, c⟩ m
    exact ⟨p, rfl, p1, p2, p3, its', r', o, m.heap p o (by simp [p1, p2]) ho, c⟩
  · intro i v s1 o Q' E' hi hP J hst hS hQ
    have hi' : i < ts.length := by rw [List.size_toArray, hlen] at hi; exact hi
    obtain ⟨t, rfl⟩ := hval i v hP
    have hg : ts.getD i [] = ts[i] := by simp [List.getD, hi']
    refine kcall_raw F hr hb J (by rw [hg]; exact hl _ (List.getElem_mem hi')) fun p s' J' kp hp hT => ?_
    obtain ⟨⟨oi, hoi, ri⟩, hli⟩ := hst
    have hitf : s.heap.objs.size ∉ frs X.stack := hit.2.2.2.2
    have hSf : s₂.heap.objs.size ∉ frs X.stack := hS2.2.2.2.2
    refine hQ (.ref p) s' J' ⟨⟨oi, kp _ _ hoi hitf, ri⟩, ?_⟩ (kp _ _ hS hSf) ⟨p, rfl, ?_, ?_, ?_, hT⟩ ?_
    · exact hli.at fun o e => kp _ _ e haf
    · exact fun z => by rw [z, hS] at hp; cases hp
    · exact fun z => by rw [z, hoi] at hp; cases hp
    · intro hb
      obtain ⟨_, o2, ho2, _⟩ := J.stack.mem hb
      rw [hp] at ho2
      cases ho2
    · rintro j kv ⟨p', rfl, p1, p2, p3, its', r', o', ho', c⟩
      exact ⟨p', rfl, p1, p2, p3, its', r', o', kp _ _ ho' p3, c⟩
  · rintro i j ki kj s1 Q' E' J ⟨p, rfl, _, _, _, its1, r1, T1⟩ ⟨p', rfl, _, _, _, its2, r2, T2⟩ hq
    obtain ⟨as1, R1⟩ := key_reads r1 T1
    obtain ⟨as2, R2⟩ := key_reads r2 T2
    refine PySem.W.rcLt_alike _ _ X.A.in1 s1 _ _ _ _ R1 R2 (kD_alike kf _ _) (fun z => by cases z) ?_ X.prog X.w E' Q' hq
    show X.A.units + 1 + _ < cLine
    have : min (kD kf (ts.getD i [])).depth (kD kf (ts.getD j [])).depth ≤ 2 := Nat.le_trans (Nat.min_le_left _ _) (by simp [kD, PyData.depth, PyData.depthAll])
    omega
  · intro v s' hP J
    rw [List.size_toArray, hlen] at hP
    obtain ⟨t, rfl⟩ := hval _ _ hP
    have hpos : 0 < ts.length := List.length_pos_iff.mpr hne
    obtain ⟨hb1, hb2⟩ := argBest_min (bt := fun i j => PySem.W.dataLt (kD kf (ts.getD i [])) (kD kf (ts.getD j []))) (fun i => by rw [dLt_key]; exact decide_eq_false (kLt_irr _)) (fun i j k h1 h2 => by
      rw [dLt_key] at h1 h2 ⊢
      exact decide_eq_true (kLt_tr (of_decide_eq_true h1) (of_decide_eq_true h2))) (ts.length - 1)
    refine ⟨tx _, H, J, ⟨t, rfl⟩, q _ ?_ fun y hy => ?_⟩
    · rw [List.getD_eq_getElem?_getD, List.getElem?_eq_getElem (by omega)]
      exact List.getElem_mem (by omega)
    · obtain ⟨j, hj, rfl⟩ := List.getElem_of_mem hy
      have := hb2 j (by omega)
      rw [dLt_key] at this
      have e2 : ts.getD j [] = ts[j] := by rw [List.getD_eq_getElem?_getD, List.getElem?_eq_getElem hj]; rfl
      rw [e2] at this
      exact of_decide_eq_false this
end
end L3
/-! Loops over a dict that nothing changes any more; cuts of lists. -/
namespace L3
open PySem PySem.Spec PyProof.Rows L2
/-- for k in e, e a dict: locked from here on -/
def iKeysN (td : TE) : TI := fun σ H R => td σ H fun x H1 => ∃ d kvs, x = .ref d ∧ H1 d = some (.dK kvs) ∧ ∀ o, R (Itk d o kvs) (upd H1 d (.frz o (.dK kvs)))
theorem pi_keysN {X : Cx} {tg e : Expr} {td : TE} (he : PE X e td) : PI X tg e (iKeysN td) := by
  refine ⟨fun pins s σ H R I h => ?_⟩
  refine thn (he.run pins s σ H _ I h) fun u s1 ⟨x, H1, I1, rx, d, kvs, ex, hd, q⟩ => ?_
  subst ex
  obtain rfl : u = Value.ref d := rx
  obtain ⟨od, I2⟩ := I1.lock hd trivial
  obtain ⟨hs, hgd, hx, es, ep, vs, hdt, hsz, kv, hm⟩ := I2.frzK upd_same
  refine iter_keys hs hgd hx hdt (pi_one (tk := s1.toks) I2 _ (turn_keys _ hdt) ⟨_, Heap.get?_push_size _ rfl, rfl, ?_⟩ (q od))
  rw [hsz] <;> rfl
theorem sq_put {K : PySem.W.Frag} {a D : Addr} {xs : List V} {H : Hp} {o : HO} (h : SqL K H a xs) (n : a ≠ D) : SqL K (upd H D o) a xs := by
  rcases h with (h | ⟨o', h⟩) | h
  · exact .inl (.inl (by rw [upd_ne n]; exact h))
  · exact .inl (.inr ⟨o', by rw [upd_ne n]; exact h⟩)
  · exact .inr h
theorem sq_new {K : PySem.W.Frag} {a D : Addr} {xs : List V} {H : Hp} {o : HO} (h : SqL K H a xs) (n : H D = none) : SqL K (upd H D o) a xs := by
  rcases h with (h | ⟨o', h⟩) | h
  · exact .inl (.inl (same_upd n _ _ h))
  · exact .inl (.inr ⟨o', same_upd n _ _ h⟩)
  · exact .inr h
theorem sq_same {K : PySem.W.Frag} {a : Addr} {xs : List V} {H H' : Hp} (h : SqL K H a xs) (s : Same H H') : SqL K H' a xs := by
  rcases h with (h | ⟨o', h⟩) | h
  · exact .inl (.inl (s _ _ h))
  · exact .inl (.inr ⟨o', s _ _ h⟩)
  · exact .inr h
/-- what a statement's ends have in common -/
theorem join {t : TS} {D : Ends} {σ : L2.St} {H : Hp} (R : L2.St → Hp → Prop) (h : ∀ N : L2.St → Hp → Prop, (∀ σ' H', R σ' H' → N σ' H') → t { D with nx := N } σ H) (k : ∀ σ' H', R σ' H' → D.nx σ' H') : t D σ H := h D.nx k
/-- an if whose test comes out false -/
theorem if_no {tc : TT} {t u : TS} {D : Ends} {σ : L2.St} {H : Hp} (R : Hp → Prop) (hc : ∀ Q : Bool → Hp → Prop, (∀ H1, R H1 → Q false H1) → tc σ H Q) (k : ∀ H1, R H1 → u D σ H1) : tIfS tc t u D σ H :=
  hc _ fun H1 r => iteF (k H1 r)
theorem next_to {D : Ends} {σ : L2.St} {H : Hp} (h : D.nx σ H) : tNext D σ H := h
theorem seq_to {t u : TS} {D : Ends} {σ : L2.St} {H : Hp} (h : t { D with nx := u D } σ H) : tSeq t u D σ H := h
theorem cut1 (xs : List V) : cutV xs (some 1) none = xs.drop 1 := by
  unfold cutV
  have e1 : HT.sIx xs.length 0 (some 1) = min 1 xs.length := HT.sIx_nat xs.length 0 1
  rw [e1, HT.sIx_none]
  by_cases h : 1 ≤ xs.length
  · rw [Nat.min_eq_left h, List.take_of_length_le (by rw [List.length_drop]; exact Nat.le_refl _)]
  · rw [Nat.min_eq_right (by omega), List.drop_of_length_le (Nat.le_refl _), List.drop_of_length_le (by omega)]
    simp
end L3
/-! How often a letter stands in a text. -/
namespace L3
open PySem PySem.Spec PyProof.Rows L2
theorem occ_run (x : Str) (c lim : Nat) (hlim : x.length < lim) : ∀ (n k : Nat) (acc : Array Nat) (f : Nat), k + n = x.length + 1 → f ≤ k → acc.size ≤ k →
    (forIn (List.range' k n) (acc, f) (StrLaws.occBody x ⟨#[c]⟩ x.length lim)).run.fst.size = acc.size + (x.cps.toList.drop k).count c
  | 0, k, acc, f, hk, hf, ha => by
    have e : x.cps.toList.drop k = [] := List.drop_of_length_le (by rw [Array.length_toList]; show x.length ≤ k; omega)
    rw [e]
    rfl
  | n + 1, k, acc, f, hk, hf, ha => by
    have hl : (⟨#[c]⟩ : Str).length = 1 := rfl
    rw [List.range'_succ, List.forIn_cons]
    by_cases hc : x.cps.toList[k]? = some c
    · have h1 := (StrLaws.subAt_one x c k).mpr hc
      have hlt : k < x.cps.toList.length := (List.getElem?_eq_some_iff.mp hc).1
      have hb : StrLaws.occBody x ⟨#[c]⟩ x.length lim k (acc, f) = pure (ForInStep.yield (acc.push k, k + 1)) := by
        unfold StrLaws.occBody
        rw [if_pos ⟨⟨⟨by show acc.size < lim; omega, hf⟩, h1.1⟩, h1.2⟩]
        rfl
      rw [hb]
      have ih := occ_run x c lim hlim n (k + 1) (acc.push k) (k + 1) (by omega) (Nat.le_refl _) (by rw [Array.size_push]; omega)
      have e : x.cps.toList.drop k = c :: x.cps.toList.drop (k + 1) := by
        rw [List.drop_eq_getElem_cons hlt]
        rw [List.getElem?_eq_getElem hlt] at hc
        rw [Option.some.inj hc]
      rw [e, List.count_cons_self]
      show (forIn (List.range' (k + 1) n) (acc.push k, k + 1) (StrLaws.occBody x ⟨#[c]⟩ x.length lim)).run.fst.size = _
      rw [ih, Array.size_push]
      omega
    · have hb : StrLaws.occBody x ⟨#[c]⟩ x.length lim k (acc, f) = pure (ForInStep.yield (acc, f)) := by
        unfold StrLaws.occBody
        rw [if_neg (fun z => hc ((StrLaws.subAt_one x c k).mp ⟨z.1.2, z.2⟩))]
      rw [hb]
      have ih := occ_run x c lim hlim n (k + 1) acc f (by omega) (by omega) (by omega)
      show (forIn (List.range' (k + 1) n) (acc, f) (StrLaws.occBody x ⟨#[c]⟩ x.length lim)).run.fst.size = _
      rw [ih]
      congr 1
      by_cases hlt : k < x.cps.toList.length
      · rw [List.drop_eq_getElem_cons hlt, List.count_cons_of_ne]
        intro z
        exact hc (by rw [List.getElem?_eq_getElem hlt, z])
      · rw [List.drop_of_length_le (by omega), List.drop_of_length_le (by omega)]
theorem count_one (l : List Nat) (c : Nat) : Txt.count (tS l) (tS [c]) = ((l.count c : Nat) : Int) := by
  unfold Txt.count
  rw [StrLaws.occ_eq]
  have h := occ_run (tS l) c ((tS l).length + 1) (by omega) ((tS l).length + 1 - 0) 0 #[] 0 (by omega) (Nat.le_refl _) (Nat.le_refl _)
  rw [Array.length_toList]
  have e : (tS l).cps.toList.drop 0 = l := by simp [tS]
  rw [e] at h
  have h2 : (forIn (List.range' 0 ((tS l).length + 1 - 0)) (#[], 0) (StrLaws.occBody (tS l) (tS [c]) (tS l).length ((tS l).length + 1))).run.fst.size = l.count c := by
    rw [show (tS [c]) = (⟨#[c]⟩ : Str) from rfl, h]
    simp
  rw [h2]
/-- a comprehension: R of the heap, A of the list so far; R asked of heaps that hold the list -/
theorem lc_gen2 {J : It} {n : Nat} {G : Hp → Prop} {Y : Nat → Hp → V → Hp → Prop} (w : Walk J n G Y) {g : TG} {tt : TT} {te : TE} {vs : List Nat} {σ : L2.St} {H1 : Hp} {D : Addr} {Qd : Hp → Prop} (R : Hp → Prop) (A : Nat → List V → Prop) (hz : n ≤ sizeLine) (hA : ∀ i acc, A i acc → acc.length ≤ i)
    (h0 : A 0 []) (r0 : R (upd H1 D (.lst []))) (r1 : ∀ H acc acc', H D = some (.lst acc) → R H → R (upd H D (.lst acc'))) (hG : ∀ H, R H → G H)
    (hs : ∀ i x H H' acc (C : VK) (N : Hp → Prop), i < n → R H → H D = some (.lst acc) → A i acc → Y i H x H' → (∀ v H4, R H4 → H4 D = some (.lst acc) → A (i + 1) (acc ++ [v]) → C v H4) → (∀ H3, R H3 → H3 D = some (.lst acc) → A (i + 1) acc → N H3) →
      g x (wipe σ vs) H' fun σ2 H2 => wipe σ2 vs = wipe σ vs ∧ tt σ2 H2 fun b H3 => if b = true then te σ2 H3 C else N H3)
    (hd : ∀ H xs, R H → H D = some (.lst xs) → A n xs → Qd H) :
    ∃ W : Nat → Nat → Hp → Prop, (∃ m, W 0 m (upd H1 D (.lst []))) ∧ ∀ i m H, W i m H →
      (J.stop i H ∧ Qd H) ∨ (J.go i H ∧ ∃ Nx : Hp → Prop, (∀ H', Nx H' → ∃ m', m' < m ∧ W (i + 1) m' H') ∧ ∀ x H', J.yld i H x H' → g x (wipe σ vs) H' fun σ2 H2 => wipe σ2 vs = wipe σ vs ∧ tt σ2 H2 fun b H3 =>
        if b = true then te σ2 H3 fun y H4 => ∃ acc, H4 D = some (.lst acc) ∧ acc.length < sizeLine ∧ Nx (upd H4 D (.lst (acc ++ [y]))) else Nx H3) := by
  refine lc_it w (fun i H => R H ∧ ∃ acc, H D = some (.lst acc) ∧ A i acc) ⟨r0, [], upd_same, h0⟩ (fun i H _ p => hG H p.1) (fun i x H H' hi p y => ?_) fun H p => ?_
  · obtain ⟨rH, acc, hD, ha⟩ := p
    refine hs i x H H' acc _ _ hi rH hD ha y (fun v H4 r4 d4 a4 => ⟨acc, d4, ?_, r1 _ _ _ d4 r4, _, upd_same, a4⟩) (fun H3 r3 d3 a3 => ⟨r3, acc, d3, a3⟩)
    have := hA i acc ha
    omega
  · obtain ⟨rH, acc, hD, ha⟩ := p
    exact hd H acc rH hD ha
section
variable {X : Cx}
theorem mt_countT : MtR X "str.count" (fun x xs H Q => ∃ (l : List Nat) (c : Nat), x = tx l ∧ xs = [tx [c]] ∧ Q (.int ((l.count c : Nat) : Int)) H) := by
  intro pins s σ H x xs v us Q I rx r h
  obtain ⟨l, c, rfl, rfl, q⟩ := h
  refine mt_count pins s σ H _ _ v us Q I rx r ⟨_, _, rfl, rfl, ?_⟩
  rw [count_one]
  exact q
end
end L3
/-! Sets of texts. -/
namespace L3
open PySem PySem.Spec PyProof.Rows L2
/-- an element that is a text, with the hash that the world gives it -/
def GoodT (w : World) (e : Int × Value) : Prop := ∃ l tk, e.2 = Value.str (tS l) tk ∧ e.1 = hashStr w (tS l)
def txtOf (e : Int × Value) : List Nat := match e.2 with | .str x _ => x.cps.toList | _ => []
theorem txt_tS (l : List Nat) (h : Int) (tk : Tok) : txtOf (h, Value.str (tS l) tk) = l := by simp [txtOf, tS]
theorem tS_txt (x : Str) : tS x.cps.toList = x := by cases x; simp [tS]
/-- the object at a is a set of the texts L -/
def SetT (w : World) (h : Heap) (a : Addr) (L : List (List Nat)) : Prop :=
  ∃ o es ep t, h.get? a = some o ∧ o.ExactSet ∧ o.data = .set es ep t ∧ (∀ e ∈ es.toList, GoodT w e) ∧ (es.toList.map txtOf).Perm L ∧ L.Nodup ∧
    es.size < scanBound ∧ t.fits es.size = true ∧ Ris t.place.toList ∧ (w.params.followText "set-order" = true ∨ t.led = true)
section
variable {P : Program} {w : World} {A : Around} {E : Value → Shared → Prop} {s : Shared} {a : Addr} {L : List (List Nat)}
theorem SetT.at {h h' : Heap} (R : SetT w h a L) (k : ∀ o, h.get? a = some o → h'.get? a = some o) : SetT w h' a L := by
  obtain ⟨o, es, ep, t, ho, r⟩ := R
  exact ⟨o, es, ep, t, k o ho, r⟩
theorem goodT_elems {l : List (Int × Value)} (g : ∀ e ∈ l, GoodT w e) : ElemsOf (PySem.strKind P w) l := fun e he => by
  obtain ⟨x, tk, h1, h2⟩ := g e he
  exact ⟨⟨tS x, by rw [h1]; exact strKind_is P w _ _, h2⟩, by rw [h1]; rfl⟩
theorem goodT_is {e : Int × Value} (g : GoodT w e) (l : List Nat) : (PySem.strKind P w).is (tS l) e.2 = true ↔ txtOf e = l := by
  obtain ⟨x, tk, h1, h2⟩ := g
  have e1 : txtOf e = x := by unfold txtOf; rw [h1]
  rw [e1, h1]
  show Value.isStrOf (tS l) (Value.str (tS x) tk) = true ↔ _
  constructor
  · intro h
    obtain ⟨u, hu⟩ := Value.isStrOf_shape h
    injection hu with hx
    have := congrArg (fun z : Str => z.cps.toList) hx
    simpa [tS] using this
  · rintro rfl
    exact strKind_is P w (tS _) tk
theorem setT_tail {g : Bool → Sem Unit} (hg : ∀ (b : Bool) (s₁ : Shared) (Q' : Unit → Shared → Prop), Q' () s₁ → wpAny (model P w) A (g b) Q' E s₁)
    {o : Obj} {es : Array (Int × Value)} {ep : Nat} {t : SetTable} (ho : s.heap.get? a = some o) (hex : o.ExactSet) (hd : o.data = .set es ep t)
    {es1 : Array (Int × Value)} {t2 : SetTable} {L' : List (List Nat)} (g1 : ∀ e ∈ es1.toList, GoodT w e) (p1 : (es1.toList.map txtOf).Perm L') (nd : L'.Nodup)
    (hb1 : es1.size < scanBound) (hf2 : t2.fits es1.size = true) (hr : Ris t2.place.toList) (hl : w.params.followText "set-order" = true ∨ t2.led = true) {wasDummy : Bool} {R : Option Bool → Shared → Prop}
    (hR : ∀ h', Heap.SameBut a s.heap h' → SetT w h' a L' → R (some true) { s with heap := h' }) :
    wpAny (model P w) A (do
        storeSet a es1 t2
        if (!wasDummy && t2.tooFull) = true then do
            g (relayAll t2 es1 (SetTable.grown es1.size)).2.2
            storeSet a (relayAll t2 es1 (SetTable.grown es1.size)).1 (relayAll t2 es1 (SetTable.grown es1.size)).2.1
            pure (some true)
          else pure (some true)) R E s := by
  refine wpAny_bind (wpAny_storeSet_of ho hd ?_ (fits_of_scanBound hb1))
  have q1 := store_at (es' := es1) (t' := t2) ho hd
  have sb := Heap.SameBut.update s.heap a (Obj.putSet es1 t2)
  split
  · have pm := relayAll_perm t2 es1 (SetTable.grown es1.size)
    have f3 := relayAll_fits t2 es1 (SetTable.grown es1.size)
    have r3 := relayAll_ris t2 es1 (SetTable.grown es1.size)
    have l3 := relayAll_led t2 es1 (SetTable.grown es1.size)
    generalize relayAll t2 es1 (SetTable.grown es1.size) = Z at pm f3 r3 l3 ⊢
    obtain ⟨es2, t3, gv⟩ := Z
    dsimp only at pm f3 r3 l3 ⊢
    have sz : es2.size = es1.size := by rw [← Array.length_toList, pm.length_eq, Array.length_toList]
    refine wpAny_bind (hg _ _ _ ?_)
    refine wpAny_bind (wpAny_storeSet_of q1 rfl ?_ (fits_of_scanBound (by rw [sz]; exact hb1)))
    refine wpAny_pure (hR _ (sb.trans (Heap.SameBut.update _ a _)) ⟨_, es2, _, t3, store_at (es' := es2) (t' := t3) q1 rfl, hex, rfl, fun e he => g1 e (pm.mem_iff.mp he), (pm.map txtOf).trans p1, nd, by rw [sz]; exact hb1, f3, r3, ?_⟩)
    rcases hl with z | z
    · exact .inl z
    · exact .inr (by rw [l3]; exact z)
  · exact wpAny_pure (hR _ sb ⟨_, es1, _, t2, q1, hex, rfl, g1, p1, nd, hb1, hf2, hr, hl⟩)
theorem setT_add {l : List Nat} {tk : Tok} {Q : Bool → Shared → Prop} (R : SetT w s.heap a L) (room : L.length + 1 < scanBound)
    (hQ : ∀ b h', Heap.SameBut a s.heap h' → SetT w h' a (if l ∈ L then L else L ++ [l]) → Q b { s with heap := h' }) :
    wpAny (model P w) A (setAddHashed a (.str (tS l) tk) ((PySem.strKind P w).hash (tS l))) Q E s := by
  obtain ⟨o, es, ep, t, ho, hex, hd, g, pL, nd, hb, hf, hr, hl⟩ := R
  have hkey : (PySem.strKind P w).is (tS l) (.str (tS l) tk) = true := strKind_is P w _ tk
  have hel : ElemsOf (PySem.strKind P w) es.toList := goodT_elems g
  have hn : es.size = L.length := by rw [← Array.length_toList, ← pL.length_eq, List.length_map]
  unfold setAddHashed setAddHashedIn
  refine wpAny_holding (wpAny_bind (wpAny_setState_of ho hd hf ?_))
  dsimp only
  rw [byScan_of (knd := PySem.strKind P w) rfl hb hel]
  simp only [↓reduceIte]
  unfold setAddByScan
  refine wpAny_bind ?_
  refine wpAny_bind (wpAny_rule ?_)
  refine wpAny_bind (wpAny_setScan_of hkey ho hd hf hel ?_)
  cases hfi : List.findIdx? (fun e => (PySem.strKind P w).is (tS l) e.2) es.toList with
  | some j =>
    dsimp only
    obtain ⟨hj, pj, _⟩ := List.findIdx?_eq_some_iff_getElem.mp hfi
    have hm : l ∈ L := pL.mem_iff.mp (List.mem_map.mpr ⟨_, List.getElem_mem hj, (goodT_is (P := P) (g _ (List.getElem_mem hj)) l).mp pj⟩)
    refine wpAny_pure (wpAny_pure ?_)
    have q := hQ false s.heap (Heap.SameBut.refl a s.heap) (by rw [if_pos hm]; exact ⟨o, es, ep, t, ho, hex, hd, g, pL, nd, hb, hf, hr, hl⟩)
    exact q
  | none =>
    dsimp only
    have hm : l ∉ L := fun z => by
      obtain ⟨e, he, q⟩ := List.mem_map.mp (pL.mem_iff.mpr z)
      have c := List.findIdx?_eq_none_iff.mp hfi e he
      rw [(goodT_is (P := P) (g e he) l).mpr q] at c
      cases c
    have hgw : ∀ (b : Bool) {s₁ : Shared} {Q' : Unit → Shared → Prop}, Q' () s₁ → wpAny (model P w) A (match b with | true => rule "set.scan.the-table-gave-way" | false => pure ()) Q' E s₁ :=
      fun b s₁ Q' q => by cases b <;> first | exact wpAny_pure q | exact wpAny_rule q
    have pm := layNew_perm t es ((PySem.strKind P w).hash (tS l)) (.str (tS l) tk)
    have hf1 := layNew_fits t es ((PySem.strKind P w).hash (tS l)) (.str (tS l) tk)
    have hr1 := layNew_ris t es ((PySem.strKind P w).hash (tS l)) (.str (tS l) tk) hr
    have hl1 := layNew_led t es ((PySem.strKind P w).hash (tS l)) (.str (tS l) tk)
    generalize layNew t es ((PySem.strKind P w).hash (tS l)) (.str (tS l) tk) = Z at pm hf1 hr1 hl1 ⊢
    obtain ⟨es1, t1, wd, gv⟩ := Z
    dsimp only at pm hf1 hr1 hl1 ⊢
    rw [Array.toList_push] at pm
    have g1 : ∀ e ∈ es1.toList, GoodT w e := fun e he => by
      rcases List.mem_append.mp (pm.mem_iff.mp he) with z | z
      · exact g e z
      · rw [List.mem_singleton.mp z]; exact ⟨l, tk, rfl, rfl⟩
    have p1 : (es1.toList.map txtOf).Perm (L ++ [l]) := by
      refine (pm.map txtOf).trans ?_
      rw [List.map_append, List.map_cons, List.map_nil, txt_tS]
      exact pL.append_right _
    have nd1 : (L ++ [l]).Nodup := by
      rw [List.nodup_append]
      refine ⟨nd, by simp, fun x hx y hy => ?_⟩
      rw [List.mem_singleton.mp hy]
      exact fun z => hm (z ▸ hx)
    have hsz : es1.size = L.length + 1 := by rw [← Array.length_toList, pm.length_eq, List.length_append, Array.length_toList, hn]; rfl
    have hb1 : es1.size < scanBound := by rw [hsz]; exact room
    have hled : w.params.followText "set-order" = true ∨ t1.led = true := by
      rcases hl with z | z
      · exact .inl z
      · exact .inr (by rw [hl1]; exact z)
    have fin : ∀ h', Heap.SameBut a s.heap h' → SetT w h' a (L ++ [l]) → Q true { s with heap := h' } := fun h' sb r => hQ true h' sb (by rw [if_neg hm]; exact r)
    refine wpAny_bind (hgw _ ?_)
    split
    · refine wpAny_bind ?_
      rw [hashByValue_scannable 8 rfl]
      refine wpAny_pure ?_
      refine setT_tail ?_ ho hex hd g1 p1 nd1 hb1 ?_ ?_ ?_ ?_
      · intro b s₁ Q' q; cases b <;> first | exact wpAny_pure q | exact wpAny_rule q
      · first | (split <;> first | exact hf1 | exact SetTable.fits_plain_off hf1) | exact hf1
      · first | (split <;> exact hr1) | exact hr1
      · first | (split <;> exact hled) | exact hled
      · intro h' sb r; dsimp only; exact wpAny_pure (fin h' sb r)
    · refine wpAny_bind (wpAny_pure ?_)
      simp only [↓reduceIte]
      refine setT_tail ?_ ho hex hd g1 p1 nd1 hb1 hf1 hr1 hled ?_
      · intro b s₁ Q' q; cases b <;> first | exact wpAny_pure q | exact wpAny_rule q
      · intro h' sb r; dsimp only; exact wpAny_pure (fin h' sb r)
end
end L3
/-! set(text), sorted(set(text)). -/
namespace L3
open PySem PySem.Spec PyProof.Rows L2
/-- the first ones, each once -/
def ded (val : Nat → List Nat) : Nat → List (List Nat)
  | 0 => []
  | i + 1 => if val i ∈ ded val i then ded val i else ded val i ++ [val i]
theorem ded_len (val : Nat → List Nat) : ∀ i, (ded val i).length ≤ i
  | 0 => Nat.le_refl _
  | i + 1 => by
    have := ded_len val i
    unfold ded
    split
    · omega
    · rw [List.length_append]
      exact Nat.succ_le_succ this
theorem ded_mem (val : Nat → List Nat) (l : List Nat) : ∀ i, l ∈ ded val i ↔ ∃ j, j < i ∧ val j = l
  | 0 => by simp [ded]
  | i + 1 => by
    have ih := ded_mem val l i
    unfold ded
    split
    · rename_i h
      rw [ih]
      refine ⟨fun ⟨j, h1, h2⟩ => ⟨j, by omega, h2⟩, fun ⟨j, h1, h2⟩ => ?_⟩
      by_cases e : j = i
      · subst e
        rw [h2] at h
        exact ih.mp h
      · exact ⟨j, by omega, h2⟩
    · rw [List.mem_append, ih, List.mem_singleton]
      constructor
      · rintro (⟨j, h1, h2⟩ | h)
        · exact ⟨j, by omega, h2⟩
        · exact ⟨i, by omega, h.symm⟩
      · rintro ⟨j, h1, h2⟩
        by_cases e : j = i
        · exact .inr (by rw [← h2, e])
        · exact .inl ⟨j, by omega, h2⟩
section
variable {prog : Program} {w : World} {A : Around} {R : Result → Shared → Prop} {I : Addr} {fp wr : List Addr} {G : Array GenState → Array GenState → Prop} {n : Nat} {P : Nat → Value → Prop} {St : Nat → Shared → Prop}
theorem set_loopT (W : WalksS prog w A.in1 I fp wr G n P St) (S : Addr) (hSf : S ∉ fp) (val : Nat → List Nat) (hval : ∀ i v, P i v → ∃ t, v = Value.str (tS (val i)) t) (hb : n + 1 < scanBound) :
    ∀ (k i : Nat) (s : Shared), n - i = k → i ≤ n → St i s → SetT w s.heap S (ded val i) →
      (∀ s', Moved (S :: wr) G s s' → SetT w s'.heap S (ded val n) → R (.ok (.ret .none)) s') →
      codeAny (model prog w) A (.builtin "set.update.loop" ⟨[.ref S, .ref I], []⟩) R s := by
  have hSw : S ∉ wr := fun h => hSf (W.sub _ h)
  have sub : ∀ b ∈ wr, b ∈ S :: wr := fun b hb => List.mem_cons_of_mem _ hb
  intro k
  induction k with
  | zero =>
    intro i s hk hi hst hS hR
    obtain rfl : i = n := by omega
    refine codeAny_builtin PyProof.Rows.F.entry_set_update_loop ?_
    rw [Around.under_plainId PyProof.Rows.F.plain_set_update_loop _]
    show wpAny _ A.in1 (pyNext (.ref I) >>= _) _ _ s
    refine wpAny_bind (W.done s _ _ hst fun s' hm => ?_)
    show wpAny _ A.in1 (ret Value.none) _ _ s'
    exact wpAny_pure (hR s' (hm.mono sub) (hS.at fun o ho => hm.heap S _ hSw ho))
  | succ k ih =>
    intro i s hk hi hst hS hR
    have hlt : i < n := by omega
    refine codeAny_builtin PyProof.Rows.F.entry_set_update_loop ?_
    rw [Around.under_plainId PyProof.Rows.F.plain_set_update_loop _]
    show wpAny _ A.in1 (pyNext (.ref I) >>= _) _ _ s
    refine wpAny_bind (W.item i s _ _ hlt hst fun v s' hP hst' hm => ?_)
    obtain ⟨t, rfl⟩ := hval i v hP
    have hS' : SetT w s'.heap S (ded val i) := hS.at fun o ho => hm.heap S _ hSw ho
    show wpAny _ A.in1 (holding [Value.str (tS (val i)) t] (setAdd S (.str (tS (val i)) t)) >>= _) _ _ s'
    refine wpAny_bind (wpAny_holding ?_)
    unfold setAdd
    refine wpAny_holding ?_
    refine wpAny_bind ((PySem.strKind prog w).pyHash (k := tS (val i)) (strKind_is prog w _ t) ?_)
    have room : (ded val i).length + 1 < scanBound := by have := ded_len val i; omega
    refine setT_add (P := prog) (s := { s' with toks := s'.toks + 1 }) hS' room fun b h' sb hS2 => ?_
    refine wpAny_pure ⟨plainId_quiet PyProof.Rows.F.plain_set_update_loop _, ih (i + 1) _ (by omega) hlt (W.frame _ s' _ _ hst' (Nat.le_succ _) fun b hb o e => ?_) hS2 fun s'' hm'' hS'' => ?_⟩
    · rw [sb.2 b (fun h : b = S => hSf (by rw [← h]; exact hb))]; exact e
    · refine hR s'' (Moved.trans W.gtrans ((hm.mono sub).then_heap (Nat.le_succ _) fun b o hb e => ?_) hm'') hS''
      rw [sb.2 b (fun h : b = S => hb (by rw [h]; exact List.mem_cons_self))]; exact e
end
section
variable {P : Program} {w : World} {A : Around} {E : Value → Shared → Prop} {s : Shared}
theorem code_set_led1 (a : Value) {Q₁ : Value → Shared → Prop}
    (h : Q₁ (.ref s.heap.objs.size) { s with heap := s.heap.push { cls := .type "set", dict := none, data := .set #[] 0 (.fresh 0 0 (!w.params.followText "set-order")) } }) :
    codeAny (model P w) A (.call (.builtin "set.__new__") ⟨[.type "set", a], []⟩) (wants Q₁ E) s := by
  refine codeAny_of_tree ?_
  show wpAny _ A.in1 (do checkBuiltinCall "set.__new__" ⟨[.type "set", a], []⟩; again (.builtin "set.__new__" ⟨[.type "set", a], []⟩)) _ _ s
  refine wpAny_bind (wpAny_of_eq (PySem.F.newCall_set_1 a) (wpAny_pure ⟨plainId_quiet PySem.F.plain_set_new _, codeAny_builtin PySem.F.entry_set_new ?_⟩))
  rw [Around.under_plainId PySem.F.plain_set_new _]
  unfold Builtin.«set.__new__» Builtin.Frozenset.newClass
  have hsub := sub_set_self
  obtain ⟨hp, g, d, tk, os⟩ := s
  dsimp only
  wp_walk
  refine wpAny_askSetting (wpAny_pure ?_)
  dsimp only
  simp only [newObj]
  refine wpAny_bind (wpAny_alloc (wpAny_pure ?_))
  exact wpAny_pure h
theorem setT_fresh {h : Heap} (w : World) : SetT w (h.push { cls := .type "set", dict := none, data := .set #[] 0 (.fresh 0 0 (!w.params.followText "set-order")) }) h.objs.size [] := by
  refine ⟨_, #[], 0, _, Heap.get?_push_size _ rfl, ⟨rfl, rfl, rfl⟩, rfl, (fun e he => by simp at he), .refl _, List.nodup_nil, by decide, rfl, List.Pairwise.nil, ?_⟩
  show _ ∨ (!w.params.followText "set-order") = true
  cases w.params.followText "set-order"
  · exact .inr rfl
  · exact .inl rfl
end
end L3
/-! set(text). -/
namespace L3
open PySem PySem.Spec PyProof.Rows L2
theorem sub_str_set : isSubtype (.type "str") (.type "set") = pure false := by rw [isSubtype_type]; kernel_rfl
theorem sub_str_frozenset : isSubtype (.type "str") (.type "frozenset") = pure false := by rw [isSubtype_type]; kernel_rfl
section
variable {P : Program} {w : World} {A : Around} {E : Value → Shared → Prop} {s : Shared}
set_option maxHeartbeats 8000000 in
/-- set(text) -/
theorem call_set_text {x : List Nat} {tx0 : Tok} {Q : Value → Shared → Prop} (hh : A.handled = none) (hb : x.length + 1 < scanBound)
    (h : ∀ (h' : Heap) (tk : Nat), SetT w h' s.heap.objs.size (ded (fun i => [x.getD i 0]) x.length) →
      (∀ b o, b < s.heap.objs.size → s.heap.get? b = some o → h'.get? b = some o) → Q (.ref s.heap.objs.size) { s with heap := h', toks := tk }) :
    wpAny (model P w) A (call (.type "set") [.str (tS x) tx0]) Q E s := by
  obtain ⟨c, tl, hmro⟩ := PySem.F.called_set.mro
  have hmade := PySem.F.called_set.made
  have hsub := PySem.F.called_set.sub
  refine wpAny_call (codeAny_of_tree ?_)
  show wpAny _ _ (callAny (.type "set") _) _ _ _
  refine wpAny_pure ⟨Code.quiet_builtin _ (by decide +kernel), codeAny_builtin PySem.F.entry_type_call ?_⟩
  rw [Around.under_plain (weight_type_call_type "set" [.str (tS x) tx0] []) rfl]
  have h1 := PySem.F.called_set.notType
  have h2 := PySem.F.called_set.canCreate
  have hct := PySem.F.typeCall_set_1 (.str (tS x) tx0)
  repeat (any_goals (first | assumption | wp_step))
  refine codeAny_mono (code_set_led1 (.str (tS x) tx0) (E := E) (Q₁ := fun obj s₁ => obj = .ref s.heap.objs.size ∧ s₁ = { s with heap := s.heap.push { cls := .type "set", dict := none, data := .set #[] 0 (.fresh 0 0 (!w.params.followText "set-order")) } }) ⟨rfl, rfl⟩) fun r s₁ hr => ?_
  cases r with
  | error e => exact hr
  | ok fl =>
    cases fl with
    | ret obj =>
      obtain ⟨rfl, rfl⟩ := hr
      have hS : (s.heap.push { cls := .type "set", dict := none, data := .set #[] 0 (.fresh 0 0 (!w.params.followText "set-order")) }).get? s.heap.objs.size = some { cls := .type "set", dict := none, data := .set #[] 0 (.fresh 0 0 (!w.params.followText "set-order")) } := Heap.get?_push_size _ rfl
      have hT : Shared.TypeIs { s with heap := s.heap.push { cls := .type "set", dict := none, data := .set #[] 0 (.fresh 0 0 (!w.params.followText "set-order")) } } (.ref s.heap.objs.size) "set" := ⟨_, hS, rfl⟩
      have hli := PySem.F.called_set.init.lookup
      have hbi := PySem.F.called_set.init.bind (.ref s.heap.objs.size)
      repeat (any_goals (first | assumption | wp_step))
      refine codeAny_mono (codeAny_call_builtin (R := wants (fun r s₂ => r = .none ∧ ∃ h' tk, s₂ = { s with heap := h', toks := tk } ∧ SetT w h' s.heap.objs.size (ded (fun i => [x.getD i 0]) x.length) ∧
          (∀ b o, b < s.heap.objs.size → s.heap.get? b = some o → h'.get? b = some o)) E) PySem.F.called_set.init.plain PySem.F.entry_set_init (PySem.check_set_init_1 hT ?_)) fun r₂ s₂ hr₂ => ?_
      · have hsls := sub_str_set
        have hslf := sub_str_frozenset
        have hne : (Value.type "str" == Value.type "dict") = false := by decide
        unfold Builtin.«set.__init__» noKeywords Builtin.Frozenset.updateFrom
        generalize hPI : pyIter = PI
        wp_walk
        subst hPI
        refine wpAny_pyIter_str fun oi St hW hst => ?_
        refine wpAny_bind (wpAny_runValue ?_)
        have hh3 : A.in1.in1.in1.handled = none := by simp [hh]
        have hsz : (s.heap.push { cls := .type "set", dict := none, data := .set #[] 0 (.fresh 0 0 (!w.params.followText "set-order")) }).objs.size = s.heap.objs.size + 1 := Heap.size_push _ _
        have hSf : s.heap.objs.size ∉ [(s.heap.push { cls := .type "set", dict := none, data := .set #[] 0 (.fresh 0 0 (!w.params.followText "set-order")) }).objs.size] := by
          rw [hsz]
          simp
        have hn : (tS x).cps.size = x.length := tS_len x
        have hval : ∀ (i : Nat) (v : Value), SignAt (tS x) i v → ∃ t, v = Value.str (tS [x.getD i 0]) t := fun i v hv => by
          obtain ⟨c, u, hc, rfl⟩ := hv
          have hc' : x[i]? = some c := by simpa [tS] using hc
          refine ⟨u, ?_⟩
          rw [List.getD_eq_getElem?_getD, hc']
          rfl
        refine set_loopT ((hW _ hh3).toS) s.heap.objs.size hSf (fun i => [x.getD i 0]) hval (by rw [hn]; exact hb) _ 0 _ rfl (Nat.zero_le _) hst ((setT_fresh w).at fun o ho => Heap.get?_push_of_some _ ho) fun s' hm hS' => ?_
        obtain ⟨h', g', d', tk', os'⟩ := s'
        have eg : g' = s.gens := hm.gens
        have ed : d' = s.drawn := hm.drawn
        have eo : os' = s.os := hm.os
        subst eg ed eo
        rw [hn] at hS'
        show wpAny _ _ _ _ _ _
        refine wpAny_pure ?_
        show wpAny _ _ (ret Value.none) _ _ _
        refine wpAny_pure ⟨rfl, h', tk', rfl, hS', fun b o hb e => ?_⟩
        refine hm.heap b o (fun z => ?_) (Heap.get?_push_of_some _ (Heap.get?_push_of_some _ e))
        simp only [List.mem_cons, List.not_mem_nil, or_false] at z
        rcases z with z | z
        · exact absurd z (Nat.ne_of_lt hb)
        · rw [hsz] at z
          exact absurd z (Nat.ne_of_lt (Nat.lt_succ_of_lt hb))
      · cases r₂ with
        | error e => exact hr₂
        | ok fl₂ =>
          cases fl₂ with
          | ret r =>
            obtain ⟨rfl, h', tk, rfl, hS', hk'⟩ := hr₂
            repeat (any_goals (first | assumption | wp_step))
            exact h _ _ hS' hk'
          | _ => exact hr₂.elim
    | _ => exact hr.elim
end
end L3
/-! sorted of a set of texts. -/
namespace L3
open PySem PySem.Spec PyProof.Rows L2
def sVal (v : Value) : Str := match v with | .str x _ => x | _ => Str.empty
theorem strs_of : ∀ (l : List Value), (∀ v ∈ l, ∃ k tk, v = Value.str k tk) → StrsAre l (l.map sVal)
  | [], _ => .nil
  | v :: l, h => by
    obtain ⟨k, tk, rfl⟩ := h v List.mem_cons_self
    exact .cons k tk (strs_of l fun u hu => h u (List.mem_cons_of_mem _ hu))
section
variable {P : Program} {w : World} {A : Around} {E : Value → Shared → Prop} {s : Shared} {a : Addr} {L : List (List Nat)}
theorem sorted_setX {Q : Value → Shared → Prop} (R : SetT w s.heap a L) (hh : A.handled = none)
    (hQ : ∀ s' p (out : Array Value) (c : Nat) (ss : List Str), (∀ b o, s.heap.get? b = some o → s'.heap.get? b = some o) → s'.gens = s.gens → s'.os = s.os → s.heap.objs.size ≤ p →
      s'.heap.get? p = some (seqObj "list" out c) → StrsAre out.toList ss → ss.Perm (L.map tS) → sortedS ss = true → Q (.ref p) s') :
    wpAny (model P w) A (call (.builtin "sorted") [.ref a]) Q E s := by
  obtain ⟨o, es, ep, t, ho, hex, hd, g, pL, nd, hb, hf, hr, hl⟩ := R
  refine Calls.call_function_entry kind_sorted plain_sorted entry_sorted (args_sorted1 _) ?_
  unfold Builtin.«sorted»
  refine wpAny_bind (m := checkCount "sorted" 1 1 _) (wpAny_pure ?_)
  refine wpAny_bind (collect_set (A := A.in1) hh ⟨o, ho, hex.1, hd⟩ hf hb hr hl fun s1 vs k1 hz g1 o1 pm => ?_)
  have hvl : vs.length = es.size := by rw [pm.length_eq, List.length_map, Array.length_toList]
  have hS : StrsAre vs (vs.map sVal) := strs_of vs fun v hv => by
    obtain ⟨e, he, q⟩ := List.mem_map.mp (pm.mem_iff.mp hv)
    obtain ⟨x, tk, h1, _⟩ := g e he
    exact ⟨tS x, tk, by rw [← q]; exact h1⟩
  have pk : (vs.map sVal).Perm (L.map tS) := by
    refine (pm.map sVal).trans ?_
    rw [List.map_map]
    have e1 : es.toList.map (sVal ∘ fun x => x.2) = (es.toList.map txtOf).map tS := by
      rw [List.map_map]
      refine List.map_congr_left fun e he => ?_
      obtain ⟨x, tk, h1, _⟩ := g e he
      show sVal e.2 = tS (txtOf e)
      unfold txtOf
      rw [h1]
      show tS x = tS (tS x).cps.toList
      rw [tS_txt]
    rw [e1]
    exact pL.map tS
  have hL : vs.length ≤ sizeLine := by rw [hvl]; exact fits_of_scanBound hb
  refine wpAny_bind (wpAny_newList ?_ hL)
  have hoL : (s1.heap.push (seqObj "list" vs.toArray 0)).get? s1.heap.objs.size = some (seqObj "list" vs.toArray 0) := Heap.get?_push_size _ rfl
  refine wpAny_bind (wpAny_holding (wpAny_call_entry slot_list_sort ⟨_, hoL, rfl⟩ entry_list_sort (list_sort_treeKAny strKind_oneLt hoL hS.keysOf (fun v₁ v₂ rest e => keyKind_strs (by rw [← e]; exact hS)) hL fun st' hp hs => ⟨_, rfl, ?_⟩) (args_list_sort _)))
  obtain ⟨ss', a1, a2, a3⟩ := sorted_out_str hS hp hs
  obtain ⟨c, hc⟩ := sortedHeap_at (vs := vs) (out := (arrOf st').map (·.2)) hoL
  refine wpAny_pure ⟨_, rfl, hQ _ s1.heap.objs.size _ c ss' (fun b u e => ?_) g1 o1 hz hc a1 (a2.trans pk) a3⟩
  have q := k1 b u e
  have hlt := Heap.lt_size q
  show (sortedHeap (s1.heap.push (seqObj "list" vs.toArray 0)) s1.heap.objs.size vs _).get? b = some u
  rw [sortedHeap_old (Nat.ne_of_lt hlt) (by rw [size_push']; exact Nat.lt_succ_of_lt hlt)]
  exact Heap.get?_push_of_some _ q
end
end L3
/-! Sets of texts: the rules by values. -/
namespace L3
open PySem PySem.Spec PyProof.Rows L2
/-- the set of the texts L at a -/
def TSet (w : World) (a : Addr) (L : List (List Nat)) : HO := .ext fun h => SetT w h a L
/-- the letters of a text, each once -/
def lets (l : List Nat) : List (List Nat) := ded (fun i => [l.getD i 0]) l.length
theorem lets_mem {l x : List Nat} : x ∈ lets l ↔ ∃ c, c ∈ l ∧ x = [c] := by
  unfold lets
  rw [ded_mem]
  constructor
  · rintro ⟨j, hj, rfl⟩
    refine ⟨l.getD j 0, ?_, rfl⟩
    rw [List.getD_eq_getElem?_getD, List.getElem?_eq_getElem hj]
    exact List.getElem_mem hj
  · rintro ⟨c, hc, rfl⟩
    obtain ⟨j, hj, rfl⟩ := List.getElem_of_mem hc
    exact ⟨j, hj, by rw [List.getD_eq_getElem?_getD, List.getElem?_eq_getElem hj]; rfl⟩
theorem rising_pair : ∀ (ss : List Str) (p : Str), risingS p ss = true → (p :: ss).Pairwise fun a b => ¬ b.cps.toList < a.cps.toList
  | [], p, _ => by simp
  | x :: ss, p, h => by
    have h : (!ltCps x.cps.toList p.cps.toList && risingS x ss) = true := h
    rw [Bool.and_eq_true, Bool.not_eq_true', ltCps_eq, decide_eq_false_iff_not] at h
    have ih := rising_pair ss x h.2
    refine List.pairwise_cons.mpr ⟨fun y hy => ?_, ih⟩
    rcases List.mem_cons.mp hy with rfl | hy
    · exact h.1
    · have h2 := (List.pairwise_cons.mp ih).1 y hy
      exact List.not_lt.mpr (List.le_trans (List.not_lt.mp h.1) (List.not_lt.mp h2))
theorem sorted_pair {ss : List Str} (h : sortedS ss = true) : ss.Pairwise fun a b => ¬ b.cps.toList < a.cps.toList := by
  cases ss with
  | nil => exact List.Pairwise.nil
  | cons x r => exact rising_pair r x h
theorem vals_strsT : ∀ {vs : List Value} {ss : List Str}, StrsAre vs ss → Vals ((ss.map fun z => z.cps.toList).map tx) vs
  | _, _, .nil => .nil
  | _, _, .cons y t k => .cons ⟨t, by show Value.str y t = Value.str (tS y.cps.toList) t; rw [tS_txt]⟩ (vals_strsT k)
theorem up_strict {L : List (List Nat)} (h : L.Pairwise fun a b => ¬ b < a) (d : L.Nodup) : L.Pairwise (· < ·) := by
  induction L with
  | nil => exact List.Pairwise.nil
  | cons x l ih =>
    obtain ⟨h1, h2⟩ := List.pairwise_cons.mp h
    obtain ⟨d1, d2⟩ := List.nodup_cons.mp d
    refine List.pairwise_cons.mpr ⟨fun y hy => ?_, ih h2 d2⟩
    rcases Decidable.em (x < y) with k | k
    · exact k
    · exact absurd (List.le_antisymm (List.not_lt.mp (h1 y hy)) (List.not_lt.mp k)) (fun z => d1 (z ▸ hy))
section
variable {X : Cx}
theorem tset_new {w : World} {P : Program} {H : Hp} {h : Heap} {a : Addr} {L : List (List Nat)} (R : SetT w h a L) : ObjOk P w H h a (TSet w a L) := by
  obtain ⟨o, es, ep, t, ho, r⟩ := id R
  exact ⟨R, ⟨o, ho⟩, fun h1 h2 p k => SetT.at p k⟩
/-- set(text) -/
theorem cr_setT (hc : X.calm = true) : CallR X (.type "set") (fun xs H Q => ∃ l, xs = [tx l] ∧ l.length ≤ 4000 ∧ ∀ p, H p = none → Q (.ref p) (upd H p (TSet X.w p (lets l)))) := by
  intro pins s σ H xs us Q I r h
  obtain ⟨l, rfl, hz, q⟩ := h
  obtain ⟨u, rfl, rx⟩ := vals1 r
  obtain ⟨t, rfl⟩ := rx
  refine call_set_text (I.ok.hd hc) (by unfold scanBound; omega) fun h' tk hS hk => ?_
  exact ⟨.ref _, _, I.laid (t' := tk) (fun b o e => hk b o (Heap.lt_size e) e) (Nat.le_refl _) (tset_new hS), rfl, q _ (I.hok.fresh (Nat.le_refl _))⟩
/-- sorted(set) -/
theorem cr_sortSetT (hc : X.calm = true) : CallR X (.builtin "sorted") (fun xs H Q => ∃ (a : Addr) (L : List (List Nat)), xs = [.ref a] ∧ H a = some (TSet X.w a L) ∧
    ∀ (L' : List (List Nat)) (p : Addr), L'.Perm L → L'.Pairwise (· < ·) → H p = none → Q (.ref p) (upd H p (.lst (L'.map tx)))) := by
  intro pins s σ H vs us Q I r h
  obtain ⟨a, L, rfl, ha, q⟩ := h
  have R : SetT X.w s.heap a L := (I.hok a _ ha).1
  rw [Vals.ref1 r]
  have nd : L.Nodup := by obtain ⟨_, _, _, _, _, _, _, _, _, n, _⟩ := R; exact n
  have hLs : L.length ≤ sizeLine := by
    obtain ⟨_, es, _, _, _, _, _, _, pL, _, hb, _⟩ := R
    rw [← pL.length_eq, List.length_map, Array.length_toList]
    exact fits_of_scanBound hb
  refine sorted_setX R (I.ok.hd hc) fun s' p out c ss k g o hp hg hi pm hs => ?_
  have pL' : (ss.map fun z => z.cps.toList).Perm L := by
    have := pm.map fun z : Str => z.cps.toList
    rw [List.map_map] at this
    have e : L.map ((fun z : Str => z.cps.toList) ∘ tS) = L := by
      conv => rhs; rw [← List.map_id L]
      refine List.map_congr_left fun l _ => ?_
      simp [tS]
    rwa [e] at this
  have hn : H p = none := I.hok.fresh hp
  have J : Inv X pins σ (upd H p (.lst ((ss.map fun z => z.cps.toList).map tx))) { s with heap := s'.heap, gens := s'.gens, drawn := s'.drawn, toks := s'.toks } :=
    I.call (ch := []) (Un.laid k hp hn) (I.hok.laid k hp ⟨by rw [List.length_map, pL'.length_eq]; exact hLs, out.toList, c, vals_strsT hi, hg⟩) (by rw [g]; exact I.bare) (fun _ z => nomatch z)
  have e : s' = { s with heap := s'.heap, gens := s'.gens, drawn := s'.drawn, toks := s'.toks } := by
    cases s'
    cases s
    cases o
    rfl
  rw [e]
  refine ⟨.ref p, _, J, rfl, q _ p pL' (up_strict ?_ (pL'.nodup_iff.mpr nd)) hn⟩
  rw [List.pairwise_map]
  exact sorted_pair hs
/-- len(set) -/
theorem cr_lenSetT : CallR X (.builtin "len") (fun xs H Q => ∃ (a : Addr) (L : List (List Nat)), xs = [.ref a] ∧ H a = some (TSet X.w a L) ∧ Q (.int (L.length : Int)) H) := by
  intro pins s σ H vs us Q I r h
  obtain ⟨a, L, rfl, ha, q⟩ := h
  obtain ⟨o, es, ep, t, ho, hex, hd, _, pL, _, hb, hf, _⟩ : SetT X.w s.heap a L := (I.hok a _ ha).1
  rw [Vals.ref1 r]
  have hn : es.size = L.length := by rw [← pL.length_eq, List.length_map, Array.length_toList]
  refine call_len_set ho hex hd hf (by have hb := hb; unfold scanBound at hb; omega) ⟨.int (L.length : Int), H, I.tok _, ⟨_, by rw [hn]⟩, q⟩
end
end L3
/-! Own classes: len(o), repr(o), x in o. -/
namespace L3
open PySem PySem.Spec PyProof.Rows L2
section
variable {X : Cx} {C f : Addr} {fd : FuncData} {k : Nat} {sp : Sp} {E : XK} {y : Str}
/-- a method run from inside a built-in -/
theorem run_own {pins : List (Addr × Obj)} {σ : L2.St} {H : Hp} {s : Shared} {ps : List Str} {us : List Value} {vs : List V} {Q : VK} {R : Value → Shared → Prop} (F : FnOkG X.prog X.w X.K X.mg X.base CX0 k f fd ps sp) (hr : Room (k + 1) X.A) (hG : X.A.guards = some []) (hb : L2.Binds X.K fd ps [])
    (I : L2.Inv X pins σ H s) (r : Vals vs us) (h : sp vs H Q E0) (hR : ∀ u s', EP X pins σ Q u s' → R u s') {E' : Value → Shared → Prop} : wpAny (model X.prog X.w) X.A.in1 (call (.ref f) us) R E' s := by
  have hl : (us ++ []).length = ps.length := by rw [List.append_nil, ← r.length]; exact F.len _ _ _ _ h
  have hb' : BindsTo s fd ⟨us, []⟩ (ps.zip us) := by
    have := hb s us I.kIn hl
    rwa [List.append_nil] at this
  refine wpAny_call (codeAny_mono (F.run X.A.in1 X.stack s H ⟨us, []⟩ us vs Q E0 hr.in1 hG I.env0.in1 hb' r h) fun r s' hq => ?_)
  cases r with
  | error e => exact (show False from hq).elim
  | ok fl =>
    cases fl with
    | ret u => exact hR u s' (I.after hq)
    | next => exact False.elim hq
    | brk => exact False.elim hq
    | cont => exact False.elim hq
/-- len(o) -/
theorem cr_lenOwn (F : FnOkG X.prog X.w X.K X.mg X.base CX0 k f fd ["self"] sp) (hr : Room (k + 1) X.A) (hG : X.A.guards = some []) (hb : L2.Binds X.K fd ["self"] []) (m : Meth X.K C "__len__" f) :
    CallR X (.builtin "len") (fun xs H Q => ∃ a dx fs, xs = [.ref a] ∧ H a = some (.ins C dx fs) ∧ sp [.ref a] H (fun v H' => ∃ n : Nat, v = .int (n : Int) ∧ n ≤ sizeLine ∧ Q (.int (n : Int)) H') E0) := by
  intro pins s σ H xs us Q I r h
  obtain ⟨a, dx, fs, rfl, ha, h⟩ := h
  rw [Vals.ref1 r]
  obtain ⟨mA, O, _⟩ := ins_get I.hok ha
  obtain ⟨od, J, _⟩ := O.look
  obtain ⟨mm, FF⟩ := I.fr
  refine PySem.W.len_K FF I.ok.mod.kin J m.at_ m.fn (run_own (vs := [.ref a]) (us := [.ref a]) F hr hG hb I (.cons rfl .nil) h fun u s' hq => ?_)
  obtain ⟨v, H', I', rv, n, rfl, hn, q⟩ := hq
  obtain ⟨t, rfl⟩ := rv
  exact ⟨⟨by omega, by rw [sizeLine_eq] at hn; omega⟩, .int (n : Int), H', I'.tok _, ⟨_, rfl⟩, q⟩
/-- repr(o) -/
theorem cr_reprOwn (F : FnOkG X.prog X.w X.K X.mg X.base CX0 k f fd ["self"] sp) (hr : Room (k + 1) X.A) (hG : X.A.guards = some []) (hb : L2.Binds X.K fd ["self"] []) (m : Meth X.K C "__repr__" f) :
    CallR X (.builtin "repr") (fun xs H Q => ∃ a dx fs, xs = [.ref a] ∧ H a = some (.ins C dx fs) ∧ sp [.ref a] H (fun v H' => ∃ z : Str, v = .str z ∧ Q (.str z) H') E0) := by
  intro pins s σ H xs us Q I r h
  obtain ⟨a, dx, fs, rfl, ha, h⟩ := h
  rw [Vals.ref1 r]
  obtain ⟨mA, O, _⟩ := ins_get I.hok ha
  obtain ⟨od, J, _⟩ := O.look
  obtain ⟨mm, FF⟩ := I.fr
  have hu := hr.units
  refine PySem.W.repr_K (by show X.A.units + 1 < cLine; omega) FF I.ok.mod.kin J m.at_ m.fn (run_own (vs := [.ref a]) (us := [.ref a]) F hr hG hb I (.cons rfl .nil) h fun u s' hq => ?_)
  obtain ⟨v, H', I', rv, z, rfl, q⟩ := hq
  obtain ⟨t, rfl⟩ := rv
  exact ⟨.str z, H', I', ⟨t, rfl⟩, q⟩
/-- x in o -/
theorem op_inOwn (F : FnOkG X.prog X.w X.K X.mg X.base CX0 k f fd ["self", y] sp) (hr : Room (k + 1) X.A) (hG : X.A.guards = some []) (hb : L2.Binds X.K fd ["self", y] []) (m : Meth X.K C "__contains__" f) :
    OpR X (compareOp .In) (fun x o H Q => ∃ a dx fs, o = .ref a ∧ H a = some (.ins C dx fs) ∧ sp [.ref a, x] H (fun v H' => ∃ b : Bool, v = .bl b ∧ Q (.bl b) H') E0) := by
  intro pins s σ H x o v u Q I rx ro h
  obtain ⟨a, dx, fs, rfl, ha, h⟩ := h
  cases ro
  obtain ⟨mA, O, _⟩ := ins_get I.hok ha
  obtain ⟨od, J, _⟩ := O.look
  obtain ⟨mm, FF⟩ := I.fr
  refine PySem.W.in_K FF I.ok.mod.kin J m.at_ m.fn ?_
  refine thn (run_fnG (vs := [.ref a, x]) (us := [.ref a, v]) (ws := [.ref a, v]) (kw := []) F (hr.mono (Nat.le_succ k)) hG pass0 I (hb s [.ref a, v] I.kIn rfl) (.cons rfl (.cons rx .nil)) h) fun u s' hq => ?_
  obtain ⟨w, H', I', rw', b, rfl, q⟩ := hq
  cases rw'
  cases b
  · exact wpAny_pure ⟨.bl false, H', I', rfl, q⟩
  · exact wpAny_pure ⟨.bl true, H', I', rfl, q⟩
/-- {e!r}, e a list or tuple of data -/
def tFmtRD (K : PySem.W.Frag) (te : TE) : TE := fun σ H Q => te σ H fun x H1 => ∃ (a : Addr) (d : PyData), x = .ref a ∧ Dp K H1 x d ∧ d.showable = true ∧ d.shown.length ≤ sizeLine ∧ d.depth ≤ 50 ∧ Q (.str d.shown) H1
theorem pe_fmtRD {e : Expr} {te : TE} {pos : Pos} (hr : Room k X.A) (hG : X.A.guards = some []) (he : PE X e te) : PE X (.FormattedValue e 114 none pos) (tFmtRD X.K te) := by
  refine ⟨fun pins s σ H Q I h => ?_⟩
  refine wpAny_FormattedValue_repr (thn (he.run pins s σ H _ I h) fun v s1 hv => ?_)
  obtain ⟨x, H1, I1, r1, a, d, rfl, hd, hs, hz, hdp, q⟩ := hv
  cases r1
  have hu := hr.units
  obtain ⟨as, hR⟩ := Dp.reads I1 d (.ref a) (.ref a) hd rfl
  refine pyReprObj_of_reads hR hs (PyData.noDict_hsm (dp_noDict (K := X.K) (H := H1) hd)) hG (by omega) (fun _ _ e => e) (fun h' t tk hk => ?_) hz
  exact wpAny_formatField_str ⟨.str d.shown, H1, I1.kept hk, ⟨_, rfl⟩, q⟩ ⟨.str d.shown, H1, (I1.kept hk).tok _, ⟨_, rfl⟩, q⟩ hz
end
end L3
/-! zip and enumerate of lists, tuples, texts, in any mixture. -/
namespace L3
open PySem PySem.Spec PyProof.Rows L2
/-- what is walked -/
inductive Src where
  | L (a : Addr) | T (a : Addr) | S (x : Str)
/-- its items -/
def Src.has (K : PySem.W.Frag) (H : Hp) : Src → List V → Prop
  | .L a, xs => SqL K H a xs
  | .T a, xs => SqT K H a xs
  | .S x, xs => xs = x.cps.toList.map fun c => V.str ⟨#[c]⟩
def Src.val : Src → V
  | .L a => .ref a
  | .T a => .ref a
  | .S x => .str x
def Src.it : Src → Addr → Nat → Heap → Prop
  | .L a, it, i, h => h.IsListIter it a i
  | .T a, it, i, h => h.IsTupleIter it a i
  | .S x, it, i, h => ∃ t, h.IsStrIter it (strIterType x) x t i
theorem vals_back : ∀ {xs : List V} {us : List Value} {i : Nat} {u : Value}, Vals xs us → us[i]? = some u → ∃ x, xs[i]? = some x ∧ RelV x u
  | _, _, _, _, .nil, e => by simp at e
  | _, _, 0, _, .cons r _, e => by simp at e; subst e; exact ⟨_, rfl, r⟩
  | _, _, i + 1, u, .cons _ t, e => by
    obtain ⟨x, h1, h2⟩ := vals_back (i := i) (u := u) t (by simpa using e)
    exact ⟨x, by simpa using h1, h2⟩
theorem Src.obj {z : Src} {it : Addr} {i : Nat} {h : Heap} (st : z.it it i h) : ∃ o, h.get? it = some o ∧ ∀ v, o.data ≠ .cell v := by
  cases z with
  | L a => obtain ⟨o, e, _, d⟩ := st; exact ⟨o, e, fun v q => by rw [d] at q; cases q⟩
  | T a => obtain ⟨o, e, _, d⟩ := st; exact ⟨o, e, fun v q => by rw [d] at q; cases q⟩
  | S x => obtain ⟨t, o, e, _, d⟩ := st; exact ⟨o, e, fun v q => by rw [d] at q; cases q⟩
theorem Src.keep {z : Src} {it : Addr} {i : Nat} {h h' : Heap} (st : z.it it i h) (k : ∀ o, h.get? it = some o → h'.get? it = some o) : z.it it i h' := by
  cases z with
  | L a => exact Heap.IsListIter.at st k
  | T a => exact Heap.IsTupleIter.at st k
  | S x => obtain ⟨t, o, e, r⟩ := st; exact ⟨t, o, k o e, r⟩
section
variable {X : Cx} {pins : List (Addr × Obj)} {σ : L2.St} {H : Hp} {s : Shared}
theorem Src.draws {z : Src} {xs : List V} {it : Addr} {i : Nat} (hh : X.A.handled = none) (I : L2.Inv X pins σ H s) (q : z.has X.K H xs) (st : z.it it i s.heap) (hn : ∀ a, z.val = .ref a → a ≠ it) :
    ∃ (fp : List Addr) (P : Nat → Value → Prop) (St : Nat → Heap → Prop), Draws X.prog X.w X.A.in1 it (it :: fp) xs.length P St ∧ (∀ b ∈ fp, z.val = .ref b) ∧ St i s.heap ∧ (∀ j h, St j h → z.it it j h) ∧ ∀ j v, P j v → ∃ x, xs[j]? = some x ∧ RelV x v := by
  cases z with
  | L a =>
    obtain ⟨its, rv, p, _⟩ := I.list q
    have e : its.toArray.size = xs.length := by rw [List.size_toArray, rv.length]
    refine ⟨[a], fun i v => its.toArray[i]? = some v, fun i h => h.IsListIter it a i ∧ h.IsList a its.toArray, by rw [← e]; exact Draws.list (A := X.A.in1) hh it a (hn a rfl) its.toArray, fun b hb => by rw [List.mem_singleton.mp hb]; rfl, ⟨st, p.isList⟩, fun j h k => k.1, fun j v hv => vals_back rv (by simpa using hv)⟩
  | T a =>
    obtain ⟨its, rv, p, _⟩ := I.tuple q
    have e : its.toArray.size = xs.length := by rw [List.size_toArray, rv.length]
    refine ⟨[a], fun i v => its.toArray[i]? = some v, fun i h => h.IsTupleIter it a i ∧ h.IsTuple a its.toArray, by rw [← e]; exact Draws.tuple (A := X.A.in1) hh it a (hn a rfl) its.toArray, fun b hb => by rw [List.mem_singleton.mp hb]; rfl, ⟨st, p⟩, fun j h k => k.1, fun j v hv => vals_back rv (by simpa using hv)⟩
  | S x =>
    obtain ⟨t, st⟩ := st
    have q : xs = x.cps.toList.map fun c => V.str ⟨#[c]⟩ := q
    have e : x.cps.size = xs.length := by rw [q]; simp
    refine ⟨[], fun i v => ∃ c u, x.cps[i]? = some c ∧ v = .str ⟨#[c]⟩ u, fun i h => h.IsStrIter it (strIterType x) x t i, by rw [← e]; exact Draws.text (A := X.A.in1) hh it x t, fun b hb => (by cases hb), st, fun j h k => ⟨t, k⟩, fun j v hv => ?_⟩
    obtain ⟨c, u, hc, rfl⟩ := hv
    refine ⟨.str ⟨#[c]⟩, ?_, ⟨u, rfl⟩⟩
    rw [q, List.getElem?_map]
    have : x.cps.toList[j]? = some c := by simpa using hc
    rw [this]; rfl
theorem Src.inj {z : Src} {xs ys : List V} (I : L2.Inv X pins σ H s) (h : z.has X.K H xs) (h' : z.has X.K H ys) : xs = ys := by
  cases z with
  | L a => exact I.list_inj h h'
  | T a => exact I.tuple_inj h h'
  | S x => exact (show xs = _ from h).trans (show ys = _ from h').symm
theorem Src.lt {z : Src} {xs : List V} (I : L2.Inv X pins σ H s) (q : z.has X.K H xs) : ∀ a, z.val = .ref a → a < s.heap.objs.size := by
  intro a ha
  cases z with
  | L b =>
    cases ha
    obtain ⟨its, rv, p, _⟩ := I.list q
    exact p.lt
  | T b =>
    cases ha
    obtain ⟨its, rv, ⟨o, e, _⟩, _⟩ := I.tuple q
    exact Heap.lt_size e
  | S x => cases ha
/-- iter of it -/
theorem Src.begins {z : Src} {xs : List V} {u : Value} (I : L2.Inv X pins σ H s) (q : z.has X.K H xs) (r : RelV z.val u) :
    ∃ (o : Obj) (G : Heap → Prop), Begins u o G ∧ G s.heap ∧ ∀ (h : Heap) (it : Addr), h.get? it = some o → z.it it 0 h := by
  cases z with
  | L a =>
    cases r
    obtain ⟨its, rv, p, _⟩ := I.list q
    exact ⟨_, _, begins_list a its.toArray, p.isList, fun h it e => ⟨_, e, rfl, rfl⟩⟩
  | T a =>
    cases r
    obtain ⟨its, rv, p, _⟩ := I.tuple q
    exact ⟨_, _, begins_tuple a its.toArray, p, fun h it e => ⟨_, e, rfl, rfl⟩⟩
  | S x =>
    obtain ⟨t, rfl⟩ := r
    exact ⟨_, _, begins_text x t, trivial, fun h it e => ⟨t, _, e, rfl, rfl⟩⟩
end
/-! ### zip -/
def ItZ (K : PySem.W.Frag) (y z : Src) : It :=
  ⟨fun i H => ∃ (xs ys : List V) (a b : V), y.has K H xs ∧ z.has K H ys ∧ xs[i]? = some a ∧ ys[i]? = some b,
    fun i H v H' => ∃ T a b, v = .ref T ∧ H T = none ∧ H' = upd H T (.tup [a, b]) ∧ (∀ xs, y.has K H xs → xs[i]? = some a) ∧ ∀ ys, z.has K H ys → ys[i]? = some b,
    fun i H => ∃ xs ys : List V, y.has K H xs ∧ z.has K H ys ∧ i ≤ xs.length ∧ i ≤ ys.length ∧ (i = xs.length ∨ i = ys.length)⟩
theorem turn_zipS {P : Program} {w : World} {K : PySem.W.Frag} {elts : List Expr} {kk : Nat} {tpos : Pos} {N : Nat} {y z : Src} (ly : ∀ a, y.val = .ref a → a < N) (lz : ∀ a, z.val = .ref a → a < N) :
    Turn P w K (.Tuple elts kk tpos) (ItZ K y z) [N + 4, N + 2, N + 3, N, N + 1] (N + 4) (fun i h => IsZip h (N + 4) (N + 2) (N + 3) .none ∧ IsTupOf2 h (N + 2) (.ref N) (.ref (N + 1)) ∧ (∃ a b, IsTupOf2 h (N + 3) a b) ∧ y.it N i h ∧ z.it (N + 1) i h) where
  mem := by simp
  obj := fun i h st c hc => by
    obtain ⟨hz, hTI, ⟨a, b, hTO⟩, h1, h2⟩ := st
    have e' : c = N + 4 ∨ c = N + 2 ∨ c = N + 3 ∨ c = N ∨ c = N + 1 := by simpa using hc
    rcases e' with q | q | q | q | q
    · rw [q]; exact ⟨_, hz, fun v q => nomatch q⟩
    · rw [q]; exact ⟨_, hTI, fun v q => nomatch q⟩
    · rw [q]; exact ⟨_, hTO, fun v q => nomatch q⟩
    · rw [q]; exact Src.obj h1
    · rw [q]; exact Src.obj h2
  keep := fun i h h' st k => by
    obtain ⟨hz, hTI, ⟨a, b, hTO⟩, h1, h2⟩ := st
    exact ⟨k _ (by simp) _ hz, k _ (by simp) _ hTI, ⟨a, b, k _ (by simp) _ hTO⟩, Src.keep h1 fun o q => k N (by simp) o q, Src.keep h2 fun o q => k (N + 1) (by simp) o q⟩
  item := by
    intro X hP hw hK hc i pins s σ H E I hf st hg
    subst hP hw hK
    obtain ⟨hz, hTI, ⟨a0, b0, hTO⟩, h1, h2⟩ := st
    obtain ⟨xs, ys, a, b, hqx, hqy, ha, hb⟩ := hg
    have hh := I.ok.hd hc
    obtain ⟨fp1, P1, St1, D1, f1, s1, b1, p1⟩ := Src.draws hh I hqx h1 (fun c e => Nat.ne_of_lt (ly c e))
    obtain ⟨fp2, P2, St2, D2, f2, s2, b2, p2⟩ := Src.draws hh I hqy h2 (fun c e => Nat.ne_of_lt (Nat.lt_succ_of_lt (lz c e)))
    have S : ZipSep2 (N + 4) (N + 2) (N + 3) N (N + 1) (N :: fp1) ((N + 1) :: fp2) := zip_sep2 (fun c e => ly c (f1 c e)) (fun c e => lz c (f2 c e))
    have hzl : N + 4 < s.heap.objs.size := Heap.lt_size hz
    have l1 : i < xs.length := (List.getElem?_eq_some_iff.mp ha).1
    have l2 : i < ys.length := (List.getElem?_eq_some_iff.mp hb).1
    refine wpAny_pyNext_zipD2_item S D1 D2 hz hTI hTO s1 s2 l1 l2 fun u u2 h' tk hu hu2 z' TO' st1 st2 hT hsz hk => ?_
    obtain ⟨a', ea, ra⟩ := p1 i u hu
    obtain ⟨b', eb, rb⟩ := p2 i u2 hu2
    refine ⟨_, rfl, wpAny_letOwnedTupleGo_zip (s := { s with heap := h', toks := tk }) z' fun h'' z'' sb => ?_⟩
    have hT2 : h''.get? s.heap.objs.size = some { cls := .type "tuple", data := .seq #[u, u2] } := (sb.2 _ (Nat.ne_of_gt (Heap.lt_size hz))).trans hT
    have new : ObjOk X.prog X.w (upd H s.heap.objs.size (.tup [a', b'])) h'' s.heap.objs.size (.tup [a', b']) :=
      ⟨by show 2 ≤ sizeLine; decide, [u, u2], .cons ra (.cons rb .nil), ⟨_, hT2, rfl, _, rfl⟩⟩
    have I1 : L2.Inv X pins σ (upd H s.heap.objs.size (.tup [a', b'])) { s with heap := h'', toks := tk } :=
      I.turnedNew (t' := tk) (ch := [N + 4, N + 2, N + 3, N, N + 1]) (fun c o hb q => (sb.2 c (fun q' => hb (by simp [q']))).trans (hk c o (fun q' => hb (by simp [q'])) (fun q' => hb (by simp [q'])) (fun q' => hb (by simp [q'])) (fun q' => hb (by simp [q'])) q)) hf (Nat.le_refl _) new
    refine ⟨.ref s.heap.objs.size, _, I1, rfl, ⟨_, a', b', rfl, I.hok.fresh (Nat.le_refl _), rfl, fun l hl => by rw [Src.inj I hl hqx]; exact ea, fun l hl => by rw [Src.inj I hl hqy]; exact eb⟩, ⟨z'', ?_, ⟨u, u2, ?_⟩, ?_, ?_⟩, fun c hcm => ?_⟩
    · exact (sb.2 _ S.TIz).trans (hk _ _ S.TIz S.TITO S.TIi1 S.TIi2 hTI)
    · exact (sb.2 _ S.TOz).trans TO'
    · exact Src.keep (b1 _ _ st1) fun o q => (sb.2 _ (Nat.ne_of_lt (Nat.lt_add_of_pos_right (by decide)))).trans q
    · exact Src.keep (b2 _ _ st2) fun o q => (sb.2 _ (Nat.ne_of_lt (Nat.add_lt_add_left (by decide) N))).trans q
    · have hlt : c < s.heap.objs.size := by
        have e' : c = N + 4 ∨ c = N + 2 ∨ c = N + 3 ∨ c = N ∨ c = N + 1 := by simpa using hcm
        have l3 : N + 4 < s.heap.objs.size := Heap.lt_size hz
        rcases e' with q | q | q | q | q
        · rw [q]; exact l3
        · rw [q]; exact Nat.lt_trans (Nat.add_lt_add_left (by decide) N) l3
        · rw [q]; exact Nat.lt_trans (Nat.add_lt_add_left (by decide) N) l3
        · rw [q]; exact Nat.lt_trans (Nat.lt_add_of_pos_right (by decide)) l3
        · rw [q]; exact Nat.lt_trans (Nat.add_lt_add_left (by decide) N) l3
      rw [upd_ne (Nat.ne_of_lt hlt)]
      exact (hf c hcm).1
  done := by
    intro X hP hw hK hc i pins s σ H E I hf st hg
    subst hP hw hK
    obtain ⟨hz, hTI, ⟨a0, b0, hTO⟩, h1, h2⟩ := st
    obtain ⟨xs, ys, hqx, hqy, e1, e2, he⟩ := hg
    have hh := I.ok.hd hc
    obtain ⟨fp1, P1, St1, D1, f1, s1, b1, p1⟩ := Src.draws hh I hqx h1 (fun c e => Nat.ne_of_lt (ly c e))
    obtain ⟨fp2, P2, St2, D2, f2, s2, b2, p2⟩ := Src.draws hh I hqy h2 (fun c e => Nat.ne_of_lt (Nat.lt_succ_of_lt (lz c e)))
    have S : ZipSep2 (N + 4) (N + 2) (N + 3) N (N + 1) (N :: fp1) ((N + 1) :: fp2) := zip_sep2 (fun c e => ly c (f1 c e)) (fun c e => lz c (f2 c e))
    exact wpAny_pyNext_zipD2_end S D1 D2 hz hTI hTO s1 s2 e1 e2 he fun h' tk hk => ⟨rfl, I.turnedL (t' := tk) (ch := [N + 4, N + 2, N + 3, N, N + 1]) (fun c o hb q =>
      hk c o (fun q' => hb (by simp [q'])) (fun q' => hb (by simp [q'])) (fun q' => hb (by simp [q'])) (fun q' => hb (by simp [q'])) q) hf⟩
  self := fun A i s Q E st h => wpAny_pyIter_zip st.1 h
/-- zip(e, e2) -/
def iZipS (K : PySem.W.Frag) (ta : TA) : TI := fun σ H R => ta σ H fun vs H1 => ∃ (y z : Src) (xs ys : List V), vs = [y.val, z.val] ∧ y.has K H1 xs ∧ z.has K H1 ys ∧ R (ItZ K y z) H1
theorem pi_zipS {X : Cx} {e e2 : Expr} {ta : TA} {p pos tpos : Pos} {elts : List Expr} {kk : Nat} (hg : Gl X "zip") (hm : X.mg "zip" = none) (ha : PA X [e, e2] ta)
    (hs : starEach [e, e2] X.env = (false, eval e X.env) :: starEach [e2] X.env := by rfl) (hpl : (backTo pos (starEach [e2] X.env)).any (·.1) = false := by rfl) :
    PI X (.Tuple elts kk tpos) (.Call (.Name "zip" p) [e, e2] [] pos) (iZipS X.K ta) := by
  refine ⟨fun pins s σ H R I h => ?_⟩
  refine Call_ (ld_blt I hg hm PyProof.Rows.boot_zip (PyProof.Rows.callWith_type1 (thn (ha.run pos pins s σ H _ I h) fun us s1 ⟨vs, H1, I1, r1, q1⟩ => ?_) hs hpl))
  obtain ⟨y, z, xs, ys, ex, hqx, hqy, q⟩ := q1
  subst ex
  cases r1 with
  | cons r rr =>
    cases rr with
    | cons r' rr =>
      cases rr
      obtain ⟨o1, G1, B1, g1, k1⟩ := Src.begins I1 hqx r
      obtain ⟨o2, G2, B2, g2, k2⟩ := Src.begins I1 hqy r'
      refine zip_begins2 B1 B2 g1 g2 fun h' hz hTI hTO c1 c2 hsz hk => wpAny_pyIter_zip hz ?_
      have I2 : L2.Inv X pins σ H1 { s1 with heap := h' } := I1.kept (t' := s1.toks) hk
      refine ⟨s1.heap.objs.size + 4, [s1.heap.objs.size + 4, s1.heap.objs.size + 2, s1.heap.objs.size + 3, s1.heap.objs.size, s1.heap.objs.size + 1], _, _, H1, rfl, I2, turn_zipS (Src.lt I1 hqx) (Src.lt I1 hqy), ⟨hz, hTI, ⟨_, _, hTO⟩, k1 _ _ c1, k2 _ _ c2⟩, fun c hcm => ?_, q⟩
      have e' : c = s1.heap.objs.size + 4 ∨ c = s1.heap.objs.size + 2 ∨ c = s1.heap.objs.size + 3 ∨ c = s1.heap.objs.size ∨ c = s1.heap.objs.size + 1 := by simpa using hcm
      have hle : s1.heap.objs.size ≤ c := by rcases e' with q | q | q | q | q <;> rw [q] <;> omega
      exact I1.fpOk hle (I1.hok.fresh hle)
theorem walk_zipS {K : PySem.W.Frag} {y z : Src} {xs ys : List V} (hn : xs.length = ys.length) : Walk (ItZ K y z) xs.length (fun H => y.has K H xs ∧ z.has K H ys) (YPair (fun i => xs[i]?) (fun i => ys[i]?)) := by
  refine ⟨fun i _ hi q => ?_, fun _ q => ⟨xs, ys, q.1, q.2, Nat.le_refl _, by omega, .inl rfl⟩, fun i H v H' _ q y => ?_⟩
  · have h2 : i < ys.length := by omega
    exact ⟨xs, ys, xs[i], ys[i], q.1, q.2, by simp [hi], by simp [h2]⟩
  · obtain ⟨T, x, z, h1, h2, h3, h4, h5⟩ := y
    exact ⟨T, x, z, h1, h2, h3, h4 xs q.1, h5 ys q.2⟩
/-! ### enumerate -/
def ItE (K : PySem.W.Frag) (y : Src) : It :=
  ⟨fun i H => ∃ (xs : List V) (a : V), y.has K H xs ∧ xs[i]? = some a,
    fun i H v H' => ∃ T a, v = .ref T ∧ H T = none ∧ H' = upd H T (.tup [.int (i : Nat), a]) ∧ ∀ xs, y.has K H xs → xs[i]? = some a,
    fun i H => ∃ xs : List V, y.has K H xs ∧ i = xs.length⟩
theorem turn_enumS {P : Program} {w : World} {K : PySem.W.Frag} {elts : List Expr} {kk : Nat} {tpos : Pos} {N : Nat} {y : Src} (ly : ∀ a, y.val = .ref a → a < N) :
    Turn P w K (.Tuple elts kk tpos) (ItE K y) [N + 1, N] (N + 1) (fun i h => (∃ old, IsEnum h (N + 1) N ((i : Nat) : Int) old) ∧ y.it N i h) where
  mem := by simp
  obj := fun i h st b hb => by
    obtain ⟨⟨old, he⟩, h1⟩ := st
    have e' : b = N + 1 ∨ b = N := by simpa using hb
    rcases e' with q | q
    · rw [q]; exact ⟨_, he, fun v q => nomatch q⟩
    · rw [q]; exact Src.obj h1
  keep := fun i h h' st k => by
    obtain ⟨⟨old, he⟩, h1⟩ := st
    exact ⟨⟨old, k _ (by simp) _ he⟩, Src.keep h1 fun o q => k N (by simp) o q⟩
  item := by
    intro X hP hw hK hc i pins s σ H E I hf st hg
    subst hP hw hK
    obtain ⟨⟨old, he⟩, h1⟩ := st
    obtain ⟨xs, a, hqx, ha⟩ := hg
    have hh := I.ok.hd hc
    obtain ⟨fp1, P1, St1, D1, f1, s1, b1, p1⟩ := Src.draws hh I hqx h1 (fun c e => Nat.ne_of_lt (ly c e))
    have hel : N + 1 < s.heap.objs.size := Heap.lt_size he
    have l1 : i < xs.length := (List.getElem?_eq_some_iff.mp ha).1
    have hef : N + 1 ∉ N :: fp1 := fun hm => by
      rcases List.mem_cons.mp hm with e | hm
      · exact Nat.succ_ne_self N e
      · exact absurd (ly _ (f1 _ hm)) (Nat.not_lt.mpr (Nat.le_succ N))
    refine wpAny_pyNext_enum_itemD D1 he s1 l1 (Nat.succ_ne_self N) hef fun u h' tk hu ho st1 hT hsz hk => ?_
    obtain ⟨a', ea, ra⟩ := p1 i u hu
    refine ⟨_, rfl, wpAny_letOwnedTupleGo_enum (s := { s with heap := h', toks := tk + 1 }) ho fun h'' he' sb => ?_⟩
    have hT2 : h''.get? s.heap.objs.size = some { cls := .type "tuple", data := .seq #[.int i tk, u] } := (sb.2 _ (Nat.ne_of_gt (Heap.lt_size he))).trans hT
    have new : ObjOk X.prog X.w (upd H s.heap.objs.size (.tup [.int (i : Nat), a'])) h'' s.heap.objs.size (.tup [.int (i : Nat), a']) :=
      ⟨by show 2 ≤ sizeLine; decide, [.int i tk, u], .cons ⟨_, rfl⟩ (.cons ra .nil), ⟨_, hT2, rfl, _, rfl⟩⟩
    have I1 : L2.Inv X pins σ (upd H s.heap.objs.size (.tup [.int (i : Nat), a'])) { s with heap := h'', toks := tk + 1 } :=
      I.turnedNew (ch := [N + 1, N]) (fun b ob hb q => (sb.2 b (fun z => hb (by simp [z]))).trans (hk b ob (fun z => hb (by simp [z])) (fun z => hb (by simp [z])) q)) hf (Nat.le_refl _) new
    refine ⟨.ref s.heap.objs.size, _, I1, rfl, ⟨_, a', rfl, I.hok.fresh (Nat.le_refl _), rfl, fun ys hy => by rw [Src.inj I hy hqx]; exact ea⟩, ⟨⟨u, ?_⟩, Src.keep (b1 _ _ st1) fun o q => (sb.2 N (Nat.ne_of_lt (Nat.lt_succ_self N))).trans q⟩, fun b hb => ?_⟩
    · have e1 : ((i + 1 : Nat) : Int) = (i : Int) + 1 := by omega
      rw [e1]; exact he'
    · have hb' : b < s.heap.objs.size := by
        have e' : b = N + 1 ∨ b = N := by simpa using hb
        rcases e' with q | q
        · rw [q]; exact hel
        · rw [q]; exact Nat.lt_trans (Nat.lt_succ_self N) hel
      rw [upd_ne (Nat.ne_of_lt hb')]
      exact (hf b hb).1
  done := by
    intro X hP hw hK hc i pins s σ H E I hf st hg
    subst hP hw hK
    obtain ⟨⟨old, he⟩, h1⟩ := st
    obtain ⟨xs, hqx, e⟩ := hg
    have hh := I.ok.hd hc
    obtain ⟨fp1, P1, St1, D1, f1, s1, b1, p1⟩ := Src.draws hh I hqx h1 (fun c e => Nat.ne_of_lt (ly c e))
    obtain ⟨f0, f1', f2, f3, f4, f5⟩ := hf N (by simp)
    exact wpAny_pyNext_enum_endD D1 he (e ▸ s1) fun h' eb => ⟨rfl, I.turned (t' := s.toks) (fun b o hb q => eb b o hb q) f0 f1' f3 f4 f5⟩
  self := fun A i s Q E st h => let ⟨⟨_, he⟩, _⟩ := st; wpAny_pyIter_enum he h
theorem meets_enum1 {v : Value} {o : Obj} {G : Heap → Prop} (B : Begins v o G) :
    Meets (Builtin.«enumerate.__new__» ⟨[.type "enumerate", v], []⟩) (fun _ R s => G s.heap ∧
      R (.ok (.ret (.ref (s.heap.push o).objs.size))) { s with heap := (s.heap.push o).push { cls := .type "enumerate", data := .fields #[.none, .bool false, .ref s.heap.objs.size, rawInt 0, .none, .none] } }) :=
  .of_wp fun prog w A R s h => by
    obtain ⟨hp, g, d, tk, os⟩ := s; obtain ⟨h1, h⟩ := h
    have hsub := sub_enumerate
    have q1 : ∀ {A' : Around} {E : Value → Shared → Prop} {Q : Value → Shared → Prop}, Q (.ref hp.objs.size) ⟨hp.push o, g, d, tk, os⟩ → wpAny (model prog w) A' (pyIter v) Q E ⟨hp, g, d, tk, os⟩ :=
      fun q => B.iter prog w _ _ ⟨hp, g, d, tk, os⟩ _ h1 q
    wp_walk using q1
    refine wpAny_stack_any fun st => wpAny_pure ?_
    split
    · rename_i c _ _ _ _ _
      cases (c == Value.type "enumerate")
      · wp_walk using q1
        exact ⟨_, rfl, h⟩
      · wp_walk using q1
        exact ⟨_, rfl, h⟩
    · wp_walk using q1
      exact ⟨_, rfl, h⟩
theorem enum_begins1 {prog : Program} {w : World} {A : Around} {E : Value → Shared → Prop} {s : Shared} {v : Value} {o : Obj} {G : Heap → Prop} {Q : Value → Shared → Prop} (B : Begins v o G) (h1 : G s.heap)
    (h : ∀ h', IsEnum h' (s.heap.objs.size + 1) s.heap.objs.size 0 .none → h'.get? s.heap.objs.size = some o → h'.objs.size = s.heap.objs.size + 2 →
      (∀ b o, s.heap.get? b = some o → h'.get? b = some o) → Q (.ref (s.heap.objs.size + 1)) { s with heap := h' }) :
    wpAny (model prog w) A (call (.type "enumerate") [v]) Q E s := by
  refine callType_new F.called_enumerate (by decide) (F.typeCall_enumerate_1 _) (F.newCall_enumerate_1 _) (fun obj => F.args_object_init_2 obj _) F.entry_enumerate_new (meets_enum1 B) ⟨h1, ?_⟩
  have hz : (s.heap.push o).objs.size = s.heap.objs.size + 1 := Heap.size_push ..
  show _ ∧ _
  rw [hz]
  have he : IsEnum ((s.heap.push o).push { cls := .type "enumerate", data := .fields #[.none, .bool false, .ref s.heap.objs.size, rawInt 0, .none, .none] }) (s.heap.objs.size + 1) s.heap.objs.size 0 .none := by
    have := Heap.get?_push_size (s.heap.push o) (o := { cls := .type "enumerate", data := .fields #[.none, .bool false, .ref s.heap.objs.size, rawInt 0, .none, .none] }) rfl
    rw [hz] at this; exact this
  exact ⟨⟨_, he, rfl⟩, h _ he (Heap.get?_push_of_some _ (Heap.get?_push_size _ B.free)) (by rw [Heap.size_push, hz]) fun b o x => Heap.get?_push_of_some _ (Heap.get?_push_of_some _ x)⟩
/-- enumerate(e) -/
def iEnumS (K : PySem.W.Frag) (ta : TA) : TI := fun σ H R => ta σ H fun vs H1 => ∃ (y : Src) (xs : List V), vs = [y.val] ∧ y.has K H1 xs ∧ R (ItE K y) H1
theorem pi_enumS {X : Cx} {e : Expr} {ta : TA} {p pos tpos : Pos} {elts : List Expr} {kk : Nat} (hg : Gl X "enumerate") (hm : X.mg "enumerate" = none) (ha : PA X [e] ta) (hs : starEach [e] X.env = [(false, eval e X.env)] := by rfl) :
    PI X (.Tuple elts kk tpos) (.Call (.Name "enumerate" p) [e] [] pos) (iEnumS X.K ta) := by
  refine ⟨fun pins s σ H R I h => ?_⟩
  refine Call_ (ld_blt I hg hm boot_enumerate (PyProof.Rows.callWith_type1 (thn (ha.run pos pins s σ H _ I h) fun us s1 ⟨vs, H1, I1, r1, q1⟩ => ?_) hs rfl))
  obtain ⟨y, xs, ex, hq, q⟩ := q1
  subst ex
  cases r1 with
  | cons r rr =>
    cases rr
    obtain ⟨o1, G1, B1, g1, k1⟩ := Src.begins I1 hq r
    refine enum_begins1 B1 g1 fun h' he c1 hsz hk => wpAny_pyIter_enum he ?_
    have I2 : L2.Inv X pins σ H1 { s1 with heap := h' } := I1.kept (t' := s1.toks) hk
    refine ⟨s1.heap.objs.size + 1, [s1.heap.objs.size + 1, s1.heap.objs.size], _, _, H1, rfl, I2, turn_enumS (Src.lt I1 hq), ⟨⟨.none, he⟩, k1 _ _ c1⟩, fun b hb => ?_, q⟩
    have e' : b = s1.heap.objs.size + 1 ∨ b = s1.heap.objs.size := by simpa using hb
    have hle : s1.heap.objs.size ≤ b := by rcases e' with q | q <;> rw [q] <;> omega
    exact I1.fpOk hle (I1.hok.fresh hle)
theorem walk_enumS {K : PySem.W.Frag} {y : Src} {xs : List V} : Walk (ItE K y) xs.length (fun H => y.has K H xs) (YPair (fun i => some (.int (i : Nat))) (fun i => xs[i]?)) := by
  refine ⟨fun i _ hi q => ⟨xs, xs[i], q, by simp [hi]⟩, fun _ q => ⟨xs, q, rfl⟩, fun i H v H' _ q y => ?_⟩
  obtain ⟨T, x, h1, h2, h3, h4⟩ := y
  exact ⟨T, .int (i : Nat), x, h1, h2, h3, rfl, h4 xs q⟩
end L3
/-! Own classes: o == x, o != x by the class's own __eq__, with any answer. -/
namespace L3
open PySem PySem.Spec PyProof.Rows L2
section
variable {M : Model} {prog : Program} {w : World} {A : Around} {E : Value → Shared → Prop} {s : Shared} {K : PySem.W.Frag} {x C f : Addr} {ox : Obj} {od : Option Obj} {b tb : Value}
theorem ne_entry {Q : PySem.Fin → Shared → Prop} (hu : A.units < cLine) (X : K.In s.heap) (I : PySem.W.InstAt s.heap x ox C od) (hs : PySem.W.findIn K (.ref C) "__eq__" = some (some (.ref f))) (hf : PySem.W.isFn K (.ref f) = true)
    (hcall : wpAny (model prog w) A (call (.ref f) [.ref x, b]) (fun v s' => ∃ z, v = .bool z ∧ Q (.done (.ret (.bool (!z)))) s') E s) :
    wpAny (model prog w) A (Builtin.«object.__ne__» ⟨[.ref x, b], []⟩) Q E s := by
  unfold Builtin.«object.__ne__»
  repeat (first
    | with_reducible refine wpAny_cRoomFor hu ?_
    | (refine wpAny_bind (m := callSpecialIfBound? (.ref x) (Str.ofString "__eq__") [b])
        (PySem.W.ifBound_K X I hs hf (wpAny_mono hcall (fun r s' hr => by
          obtain ⟨b, rfl, hq⟩ := hr
          repeat (first | exact hq | exact wpAny_pure hq | exact wpAny_truthy_bool hq | (refine wpAny_bind (m := truthy (.bool _)) (wpAny_truthy_bool ?_)) | wp_step)) fun _ _ e => e)))
    | wp_step)
theorem ifBound_ne {args : List Value} {Q : Option Value → Shared → Prop} (X : K.In s.heap) (I : PySem.W.InstAt s.heap x ox C od) (hs : PySem.W.findIn K (.ref C) "__ne__" = some (some (.builtin "object.__ne__")))
    (h : wpAny M A (call (.builtin "object.__ne__") (.ref x :: args)) (fun v => Q (some v)) E s) : wpAny M A (callSpecialIfBound? (.ref x) "__ne__" args) Q E s := by
  simp only [callSpecialIfBound?, bindSpecialIfBound?]
  refine wpAny_holding (wpAny_bind (wpAny_bind (wpAny_bind (I.type.here ((PySem.W.looks_findIn X hs).here ?_)))))
  refine wpAny_bind (wpAny_askSetting (wpAny_ite ?_))
  have fin : wpAny M A (call (.builtin "object.__ne__") ([.ref x] ++ args) >>= fun v => pure (some v)) Q E s := wpAny_bind (wpAny_mono h (fun v s' h' => wpAny_pure h') fun _ _ h' => h')
  split
  · exact wpAny_bind (wpAny_of_eq (F.cmp_object.ne.bind _) (wpAny_pure (by exact fin)))
  · exact wpAny_tryCatch (wpAny_bind (wpAny_of_eq (F.cmp_object.ne.bind _) (wpAny_pure (by exact fin))))
theorem rc_ne {Q : Value → Shared → Prop} (hu : A.units + 1 < cLine) (X : K.In s.heap) (I : PySem.W.InstAt s.heap x ox C od) (hb : PySem.W.Looks (model prog w) s.heap (typeOf b) tb) (hn : PySem.W.notFirst K C tb = true)
    (hm : PySem.W.mroIn K C (.type "object") = some true) (hne : PySem.W.findIn K (.ref C) "__ne__" = some (some (.builtin "object.__ne__"))) (hs : PySem.W.findIn K (.ref C) "__eq__" = some (some (.ref f))) (hf : PySem.W.isFn K (.ref f) = true)
    (h : wpAny (model prog w) A.in1 (call (.ref f) [.ref x, b]) (fun v s' => ∃ z, v = .bool z ∧ Q (.bool (!z)) s') E s) : wpAny (model prog w) A (richCompare .NotEq (.ref x) b) Q E s := by
  have one : wpAny (model prog w) A (tryCompare (.ref x) "__ne__" b) (fun r s' => ∃ v, r = some v ∧ Q v s') E s := by
    unfold tryCompare
    refine wpAny_bind (ifBound_ne X I hne (wpAny_call (codeAny_call_builtin F.cmp_object.ne.plain F.cmpEntry_ne (PySem.W.check_slot F.cmpKind_ne F.cmpSplit_ne (I.type.andThen (PySem.W.looks_mroIn X hm)) (F.cmpArgs_ne _ _)
      (ne_entry (A := A.in1) hu X I hs hf (wpAny_mono h (fun v s' hv => ?_) fun _ _ e => e))))))
    obtain ⟨z, rfl, hq⟩ := hv
    first | exact ⟨z, rfl, wpAny_pure ⟨_, rfl, hq⟩⟩ | exact ⟨z, rfl, wpAny_pure (wpAny_pure ⟨_, rfl, hq⟩)⟩ | exact ⟨z, rfl, ⟨_, rfl, hq⟩⟩
  unfold richCompare
  simp only [oneThing_ref]
  refine wpAny_holding (wpAny_bind (wpAny_cRoomFor (Nat.lt_of_succ_lt hu) ?_))
  refine wpAny_bind (I.type.here (wpAny_bind (hb.here ?_)))
  rw [cmpInfo_NotEq]
  dsimp only
  split
  · rename_i q
    have e : PySem.W.subIn K tb (.ref C) = some false := by
      rcases Bool.or_eq_true_iff.mp hn with e | e
      · rw [beq_iff_eq.mp e] at q; simp at q
      · exact beq_iff_eq.mp e
    refine wpAny_bind ((PySem.W.looks_subIn X e).here ?_)
    simp only [Bool.false_eq_true, if_false]
    refine wpAny_bind (wpAny_mono one (fun r s' z => ?_) fun _ _ e => e)
    obtain ⟨v, rfl, hq⟩ := z
    exact wpAny_pure hq
  · refine wpAny_bind (wpAny_pure ?_)
    simp only [Bool.false_eq_true, if_false]
    refine wpAny_bind (wpAny_mono one (fun r s' z => ?_) fun _ _ e => e)
    obtain ⟨v, rfl, hq⟩ := z
    exact wpAny_pure hq
end
section
variable {X : Cx} {C f : Addr} {fd : FuncData} {k : Nat} {sp : Sp} {y : Str}
theorem looks_of {pins : List (Addr × Obj)} {σ : L2.St} {H : Hp} {s : Shared} {x : V} {u t : Value} (I : L2.Inv X pins σ H s) (rx : RelV x u) (ty : TyX X.K H x t) : PySem.W.Looks (model X.prog X.w) s.heap (typeOf u) t := by
  obtain ⟨P, Z, p, _⟩ := kit_of I rx ty
  exact Z.ty _ _ I.kIn p
/-- o == x -/
theorem op_eqOwn (F : FnOkG X.prog X.w X.K X.mg X.base CX0 k f fd ["self", y] sp) (hr : Room k X.A) (hG : X.A.guards = some []) (hb : L2.Binds X.K fd ["self", y] []) (m : Meth X.K C "__eq__" f) :
    OpR X (compareOp .Eq) (fun o x H Q => ∃ a dx fs t, o = .ref a ∧ H a = some (.ins C dx fs) ∧ TyX X.K H x t ∧ PySem.W.notFirst X.K C t = true ∧ sp [.ref a, x] H (fun v H' => ∃ b : Bool, v = .bl b ∧ Q (.bl b) H') E0) := by
  intro pins s σ H o x v u Q I ro rx h
  obtain ⟨a, dx, fs, t, rfl, ha, ty, hn, h⟩ := h
  cases ro
  obtain ⟨mA, O, _⟩ := ins_get I.hok ha
  obtain ⟨od, J, _⟩ := O.look
  obtain ⟨mm, FF⟩ := I.fr
  show wpAny (model X.prog X.w) X.A (richCompare .Eq (.ref a) u) _ _ s
  refine PySem.W.cmp_K (op := .Eq) hr.units0 FF I.ok.mod.kin J (looks_of I rx ty) hn m.at_ m.fn ?_
  refine thn (run_fnG (vs := [.ref a, x]) (us := [.ref a, u]) (ws := [.ref a, u]) (kw := []) F hr hG pass0 I (hb s [.ref a, u] I.kIn rfl) (.cons rfl (.cons rx .nil)) h) fun w s' hq => ?_
  obtain ⟨v, H', I', rv, b, rfl, q⟩ := hq
  cases rv
  exact (show EP X pins σ Q (.bool b) s' from ⟨.bl b, H', I', rfl, q⟩)
/-- o != x -/
theorem op_neOwn (F : FnOkG X.prog X.w X.K X.mg X.base CX0 k f fd ["self", y] sp) (hr : Room (k + 1) X.A) (hG : X.A.guards = some []) (hb : L2.Binds X.K fd ["self", y] []) (m : Meth X.K C "__eq__" f)
    (hm : PySem.W.mroIn X.K C (.type "object") = some true) (hne : PySem.W.findIn X.K (.ref C) "__ne__" = some (some (.builtin "object.__ne__"))) :
    OpR X (compareOp .NotEq) (fun o x H Q => ∃ a dx fs t, o = .ref a ∧ H a = some (.ins C dx fs) ∧ TyX X.K H x t ∧ PySem.W.notFirst X.K C t = true ∧ sp [.ref a, x] H (fun v H' => ∃ b : Bool, v = .bl b ∧ Q (.bl (!b)) H') E0) := by
  intro pins s σ H o x v u Q I ro rx h
  obtain ⟨a, dx, fs, t, rfl, ha, ty, hn, h⟩ := h
  cases ro
  obtain ⟨mA, O, _⟩ := ins_get I.hok ha
  obtain ⟨od, J, _⟩ := O.look
  show wpAny (model X.prog X.w) X.A (richCompare .NotEq (.ref a) u) _ _ s
  have hu := hr.units
  refine rc_ne (by omega) I.kIn J (looks_of I rx ty) hn hm hne m.at_ m.fn ?_
  refine run_own (vs := [.ref a, x]) (us := [.ref a, u]) F hr hG hb I (.cons rfl (.cons rx .nil)) h fun w s' hq => ?_
  obtain ⟨v, H', I', rv, b, rfl, q⟩ := hq
  cases rv
  exact ⟨b, rfl, .bl (!b), H', I', rfl, q⟩
end
end L3
/-! Deep data: heaps that grow, items; lists or tuples; text.index; weights of what is shown; == of data. -/
namespace L3
open PySem PySem.Spec PyProof.Rows L2
/-- numbers as values -/
def nV (l : List Nat) : List V := l.map fun (n : Nat) => V.int (n : Int)
theorem nV_len (l : List Nat) : (nV l).length = l.length := by unfold nV; rw [List.length_map]
theorem nV_get {l : List Nat} {i n : Nat} (h : l[i]? = some n) : (nV l)[i]? = some (V.int (n : Int)) := by unfold nV; rw [List.getElem?_map, h]; rfl
theorem nV_inv {l : List Nat} {i : Nat} {v : V} (h : (nV l)[i]? = some v) : ∃ n, l[i]? = some n ∧ v = V.int (n : Int) := by
  unfold nV at h
  rw [List.getElem?_map] at h
  obtain ⟨n, h1, h2⟩ := Option.map_eq_some_iff.mp h
  exact ⟨n, h1, h2.symm⟩
theorem nV_flat (l : List Nat) : (nV l).all flatV = true := by
  rw [List.all_eq_true]
  intro x hx
  obtain ⟨n, _, rfl⟩ := List.mem_map.mp hx
  rfl
theorem eqV_int (a b : Nat) : eqV (.int (a : Int)) (.int (b : Int)) = decide (a = b) := by
  show ((a : Int) == (b : Int)) = _
  by_cases h : a = b
  · subst h; simp
  · rw [decide_eq_false h]; exact beq_eq_false_iff_ne.mpr (by omega)
theorem nV_in (n : Nat) (l : List Nat) : inV (.int (n : Int)) (nV l) = decide (n ∈ l) := by
  unfold inV nV
  rw [List.any_map]
  by_cases h : n ∈ l
  · rw [decide_eq_true h, List.any_eq_true]
    exact ⟨n, h, by show eqV (.int (n : Int)) (.int (n : Int)) = true; rw [eqV_int]; exact decide_eq_true rfl⟩
  · rw [decide_eq_false h, List.any_eq_false]
    intro x hx e
    have e : eqV (.int (x : Int)) (.int (n : Int)) = true := e
    rw [eqV_int] at e
    exact h (of_decide_eq_true e ▸ hx)
theorem idx_first : ∀ {l : List Nat} {n m k : Nat}, m < l.idxOf n → l[m]? = some k → k ≠ n
  | [], n, m, k, hm, h => by simp at h
  | a :: l, n, m, k, hm, h => by
    rw [List.idxOf_cons] at hm
    by_cases e : a = n
    · subst e; simp at hm
    · have e' : (a == n) = false := by simpa using e
      rw [e'] at hm
      simp only [cond_false] at hm
      cases m with
      | zero => simp at h; subst h; exact e
      | succ m => exact idx_first (l := l) (m := m) (by omega) (by simpa using h)
/-! ### Dp -/
mutual
theorem Dp.same {K : PySem.W.Frag} {H H' : Hp} (s : Same H H') : ∀ {v : V} {d : PyData}, Dp K H v d → Dp K H' v d
  | _, _, .non => .non
  | _, _, .bl b => .bl b
  | _, _, .int i => .int i
  | _, _, .str x => .str x
  | _, _, .lst h a => .lst (sq_same h s) (DpAll.same s a)
  | _, _, .tup h a => .tup (h.elim (fun h => .inl (h.elim (fun h => .inl (s _ _ h)) fun ⟨o, h⟩ => .inr ⟨o, s _ _ h⟩)) fun h => .inr h) (DpAll.same s a)
theorem DpAll.same {K : PySem.W.Frag} {H H' : Hp} (s : Same H H') : ∀ {vs : List V} {ds : List PyData}, DpAll K H vs ds → DpAll K H' vs ds
  | _, _, .nil => .nil
  | _, _, .cons a b => .cons (Dp.same s a) (DpAll.same s b)
end
theorem sqT_same {K : PySem.W.Frag} {a : Addr} {xs : List V} {H H' : Hp} (h : SqT K H a xs) (s : Same H H') : SqT K H' a xs :=
  h.elim (fun h => .inl (h.elim (fun h => .inl (s _ _ h)) fun ⟨o, h⟩ => .inr ⟨o, s _ _ h⟩)) fun h => .inr h
section
variable {K : PySem.W.Frag} {H : Hp}
theorem dp_list {v : V} {ds : List PyData} (h : Dp K H v (.list ds)) : ∃ a xs, v = .ref a ∧ SqL K H a xs ∧ DpAll K H xs ds := by
  cases h with
  | lst h a => exact ⟨_, _, rfl, h, a⟩
theorem dp_tuple {v : V} {ds : List PyData} (h : Dp K H v (.tuple ds)) : ∃ a xs, v = .ref a ∧ SqT K H a xs ∧ DpAll K H xs ds := by
  cases h with
  | tup h a => exact ⟨_, _, rfl, h, a⟩
theorem dp_int {v : V} {n : Int} (h : Dp K H v (.int n)) : v = .int n := by cases h; rfl
theorem dp_bool {v : V} {b : Bool} (h : Dp K H v (.bool b)) : v = .bl b := by cases h; rfl
theorem dp_str {v : V} {x : Str} (h : Dp K H v (.str x)) : v = .str x := by cases h; rfl
theorem dpAll_len : ∀ {xs : List V} {ds : List PyData}, DpAll K H xs ds → xs.length = ds.length
  | _, _, .nil => rfl
  | _, _, .cons _ t => by rw [List.length_cons, List.length_cons, dpAll_len t]
theorem dpAll_get : ∀ {xs : List V} {ds : List PyData} {i : Nat} {d : PyData}, DpAll K H xs ds → ds[i]? = some d → ∃ x, xs[i]? = some x ∧ Dp K H x d
  | _, _, _, _, .nil, e => by simp at e
  | _, _, 0, _, .cons h _, e => by simp at e; subst e; exact ⟨_, rfl, h⟩
  | _, _, i + 1, d, .cons _ t, e => by
    obtain ⟨x, h1, h2⟩ := dpAll_get (i := i) (d := d) t (by simpa using e)
    exact ⟨x, by simpa using h1, h2⟩
theorem dpAll_back : ∀ {xs : List V} {ds : List PyData} {i : Nat} {x : V}, DpAll K H xs ds → xs[i]? = some x → ∃ d, ds[i]? = some d ∧ Dp K H x d
  | _, _, _, _, .nil, e => by simp at e
  | _, _, 0, _, .cons h _, e => by simp at e; subst e; exact ⟨_, rfl, h⟩
  | _, _, i + 1, x, .cons _ t, e => by
    obtain ⟨d, h1, h2⟩ := dpAll_back (i := i) (x := x) t (by simpa using e)
    exact ⟨d, by simpa using h1, h2⟩
theorem dpAll_app : ∀ {xs ys : List V} {ds es : List PyData}, DpAll K H xs ds → DpAll K H ys es → DpAll K H (xs ++ ys) (ds ++ es)
  | _, _, _, _, .nil, b => b
  | _, _, _, _, .cons h t, b => .cons h (dpAll_app t b)
theorem dpAll_rep {x : V} {d : PyData} (h : Dp K H x d) : ∀ n, DpAll K H (List.replicate n x) (List.replicate n d)
  | 0 => .nil
  | n + 1 => .cons h (dpAll_rep h n)
/-- by places -/
theorem dpAll_of : ∀ {xs : List V} {ds : List PyData}, xs.length = ds.length → (∀ (i : Nat) (x : V) (d : PyData), xs[i]? = some x → ds[i]? = some d → Dp K H x d) → DpAll K H xs ds
  | [], [], _, _ => .nil
  | x :: xs, d :: ds, hl, h => .cons (h 0 x d rfl rfl) (dpAll_of (by simpa using hl) fun i x' d' h1 h2 => h (i + 1) x' d' (by simpa using h1) (by simpa using h2))
def dN (l : List Nat) : List PyData := l.map fun (n : Nat) => PyData.int (n : Int)
def dB (l : List Bool) : List PyData := l.map PyData.bool
theorem dpAll_nV : ∀ l : List Nat, DpAll K H (nV l) (dN l)
  | [] => .nil
  | n :: l => .cons (.int _) (dpAll_nV l)
theorem dpAll_nats : ∀ {l : List Nat} {xs : List V}, DpAll K H xs (dN l) → xs = nV l
  | [], _, .nil => rfl
  | n :: l, _, .cons h t => by rw [dp_int h, dpAll_nats t]; rfl
theorem dpAll_bools : ∀ {l : List Bool} {xs : List V}, DpAll K H xs (dB l) → xs = l.map V.bl
  | [], _, .nil => rfl
  | n :: l, _, .cons h t => by rw [dp_bool h, dpAll_bools t]; rfl
theorem dpAll_texts : ∀ {l : List (List Nat)} {xs : List V}, DpAll K H xs (dTx l) → xs = l.map tx
  | [], _, .nil => rfl
  | n :: l, _, .cons h t => by rw [dp_str h, dpAll_texts t]; rfl
end
/-! ### lists or tuples -/
/-- a list or a tuple with these items -/
def Sq (K : PySem.W.Frag) (H : Hp) (v : V) (xs : List V) : Prop := ∃ a, v = .ref a ∧ (SqL K H a xs ∨ SqT K H a xs)
theorem Sq.same {K : PySem.W.Frag} {H H' : Hp} {v : V} {xs : List V} (h : Sq K H v xs) (s : Same H H') : Sq K H' v xs := by
  obtain ⟨a, e, h⟩ := h
  exact ⟨a, e, h.elim (fun h => .inl (sq_same h s)) fun h => .inr (sqT_same h s)⟩
theorem sq_list {K : PySem.W.Frag} {H : Hp} {a : Addr} {xs : List V} (h : SqL K H a xs) : Sq K H (.ref a) xs := ⟨a, rfl, .inl h⟩
theorem sq_tuple {K : PySem.W.Frag} {H : Hp} {a : Addr} {xs : List V} (h : SqT K H a xs) : Sq K H (.ref a) xs := ⟨a, rfl, .inr h⟩
/-- the iterator of a list or a tuple -/
def iSq (K : PySem.W.Frag) (tl : TE) : TI := fun σ H R => tl σ H fun x H1 => ∃ xs H0, Sq K H0 x xs ∧ Same H0 H1 ∧ ∀ J G, Walk J xs.length G (YAt xs) → (∀ H', Same H0 H' → G H') → R J H1
theorem pi_sq {X : Cx} {tg l : Expr} {tl : TE} (hl : PE X l tl) : PI X tg l (iSq X.K tl) := by
  refine ⟨fun pins s σ H R I h => ?_⟩
  refine thn (hl.run pins s σ H _ I h) fun v s1 ⟨x, H1, I1, r1, q1⟩ => ?_
  obtain ⟨xs, H0, ⟨a, e, hq⟩, sm, q⟩ := q1
  subst e
  cases r1
  have fresh : ∀ b, b ∈ [s1.heap.objs.size] → FpOk X pins H1 b := fun b hb => by
    have e : b = s1.heap.objs.size := by simpa using hb
    subst e
    exact I1.fpOk (Nat.le_refl _) (I1.hok.fresh (Nat.le_refl _))
  rcases hq with hq | hq
  · obtain ⟨its, rv, p, hz⟩ := I1.list (sq_same hq sm)
    refine wpAny_pyIter_list p.isList ?_
    exact ⟨s1.heap.objs.size, [s1.heap.objs.size], _, _, H1, rfl, I1.kept (t' := s1.toks) fun b o e => Heap.get?_push_of_some _ e, turn_list a _, ⟨_, Heap.get?_push_size _ rfl, rfl, rfl⟩, fresh, q _ _ walk_list fun H' s' => sq_same hq s'⟩
  · obtain ⟨its, rv, p, hz⟩ := I1.tuple (sqT_same hq sm)
    refine wpAny_pyIter_tuple p ?_
    exact ⟨s1.heap.objs.size, [s1.heap.objs.size], _, _, H1, rfl, I1.kept (t' := s1.toks) fun b o e => Heap.get?_push_of_some _ e, turn_tuple a _, ⟨_, Heap.get?_push_size _ rfl, rfl, rfl⟩, fresh, q _ _ walk_tup fun H' s' => sqT_same hq s'⟩
/-- as what zip or enumerate walks -/
theorem sq_src {K : PySem.W.Frag} {H : Hp} {v : V} {xs : List V} (h : Sq K H v xs) : ∃ y : Src, v = y.val ∧ ∀ H', Same H H' → y.has K H' xs := by
  obtain ⟨a, rfl, h | h⟩ := h
  · exact ⟨.L a, rfl, fun H' s => sq_same h s⟩
  · exact ⟨.T a, rfl, fun H' s => sqT_same h s⟩
theorem tx_src {K : PySem.W.Frag} (l : List Nat) : ∃ y : Src, tx l = y.val ∧ ∀ H', y.has K H' (l.map fun c => tx [c]) := by
  refine ⟨.S (tS l), rfl, fun H' => ?_⟩
  show l.map _ = (tS l).cps.toList.map _
  simp [tS, tx]
section
variable {X : Cx}
/-- x[i] of either -/
theorem ix_sq : IxR X (fun x y H Q => ∃ xs i v, Sq X.K H x xs ∧ y = .int i ∧ atI xs i = some v ∧ Q v H) := by
  intro value slice pins s σ H x y v u Q I rx ry h hs
  obtain ⟨xs, i, w, ⟨a, rfl, h⟩, rfl, hat, q⟩ := h
  rcases h with h | h
  · exact ix_list value slice pins s σ H _ _ v u Q I rx ry ⟨a, xs, i, w, rfl, rfl, h, hat, q⟩ hs
  · exact ix_tup value slice pins s σ H _ _ v u Q I rx ry ⟨a, xs, i, w, rfl, rfl, h, hat, q⟩ hs
/-- text.index(letter) -/
theorem mt_indexT : MtR X "str.index" (fun x xs H Q => ∃ (l : List Nat) (c : Nat), x = tx l ∧ xs = [tx [c]] ∧ c ∈ l ∧ Q (.int ((l.idxOf c : Nat) : Int)) H) := by
  intro pins s σ H x xs v us Q I rx r h
  obtain ⟨l, c, rfl, rfl, hc, q⟩ := h
  rcases StrLaws.occ_head (tS l) (tS [c]) 1 (Nat.le_refl 1) with ⟨_, hn⟩ | ⟨i, rest, ho, hat, hn⟩
  · obtain ⟨j, hj⟩ := List.mem_iff_getElem?.mp hc
    exact absurd ((StrLaws.subAt_one (tS l) c j).mpr (by simpa [tS] using hj)) (hn j)
  · refine mt_sindex pins s σ H _ _ v us Q I rx r ⟨_, _, i, rest, rfl, rfl, ho, ?_⟩
    have h1 : l[i]? = some c := by
      have := (StrLaws.subAt_one (tS l) c i).mp hat
      simpa [tS] using this
    have h2 : ∀ m, m < i → l[m]? ≠ some c := fun m hm z => hn m hm ((StrLaws.subAt_one (tS l) c m).mpr (by simpa [tS] using z))
    have e : l.idxOf c = i := by
      obtain ⟨hi, e1⟩ := List.getElem?_eq_some_iff.mp h1
      have h3 : l.idxOf c < l.length := List.idxOf_lt_length_of_mem hc
      have h4 : l[l.idxOf c] = c := List.getElem_idxOf h3
      rcases Nat.lt_trichotomy (l.idxOf c) i with z | z | z
      · exact absurd (by rw [List.getElem?_eq_getElem h3, h4]) (h2 _ z)
      · exact z
      · exact absurd rfl (idx_first z h1)
    rw [← e] at *
    exact q
/-- numbers.index(n) -/
theorem mt_indexN : MtR X "list.index" (fun x xs H Q => ∃ (a : Addr) (l : List Nat) (n : Nat), x = .ref a ∧ xs = [.int (n : Int)] ∧ SqL X.K H a (nV l) ∧ n ∈ l ∧ Q (.int ((l.idxOf n : Nat) : Int)) H) := by
  intro pins s σ H x xs v us Q I rx r h
  obtain ⟨a, l, n, rfl, rfl, hS, hn, q⟩ := h
  have h3 : l.idxOf n < l.length := List.idxOf_lt_length_of_mem hn
  refine mt_index pins s σ H _ _ v us Q I rx r ⟨a, nV l, .int (n : Int), l.idxOf n, .int (n : Int), rfl, rfl, hS, rfl, nV_flat l, nV_get ?_, ?_, fun m z hm hz => ?_, q⟩
  · rw [List.getElem?_eq_getElem h3, List.getElem_idxOf h3]
  · rw [eqV_int]; exact decide_eq_true rfl
  · obtain ⟨k, hk, rfl⟩ := nV_inv hz
    rw [eqV_int]
    exact decide_eq_false (idx_first hm hk)
/-- n in numbers -/
theorem op_inN : OpR X (compareOp .In) (fun x y H Q => ∃ (l : List Nat) (n : Nat), x = .int (n : Int) ∧ Sq X.K H y (nV l) ∧ Q (.bl (decide (n ∈ l))) H) := by
  intro pins s σ H x y v u Q I rx ry h
  obtain ⟨l, n, rfl, ⟨a, rfl, hS⟩, q⟩ := h
  exact op_in_seq pins s σ H _ _ v u Q I rx ry ⟨a, nV l, rfl, hS, rfl, nV_flat l, by rw [nV_in]; exact q⟩
theorem op_notInN : OpR X (compareOp .NotIn) (fun x y H Q => ∃ (l : List Nat) (n : Nat), x = .int (n : Int) ∧ Sq X.K H y (nV l) ∧ Q (.bl (!decide (n ∈ l))) H) := by
  intro pins s σ H x y v u Q I rx ry h
  obtain ⟨l, n, rfl, ⟨a, rfl, hS⟩, q⟩ := h
  exact op_notIn_seq pins s σ H _ _ v u Q I rx ry ⟨a, nV l, rfl, hS, rfl, nV_flat l, by rw [nV_in]; exact q⟩
end
/-! ### weights -/
structure Wt (d : PyData) (w k : Nat) : Prop where
  s : d.showable = true
  l : d.leavesShort 10 = true
  c : d.canLay0 = true
  w : d.weight ≤ w
  p : d.depth ≤ k
theorem Wt.shw {d : PyData} {w k : Nat} (h : Wt d w k) (hw : w ≤ 1048576) (hk : k ≤ 50) : Shw d :=
  ⟨h.s, PyData.shown_fits (B := 10) (by decide) (by decide) h.l (Nat.le_trans h.w (Nat.le_trans hw (by decide))), Nat.le_trans h.p hk⟩
theorem Wt.shaped {d : PyData} {w k : Nat} (h : Wt d w k) (hk : k ≤ 64) : SeqAt.shaped d = true := by
  show (d.canLay0 && decide (d.depth ≤ 64)) = true
  rw [h.c, decide_eq_true (Nat.le_trans h.p hk)]
  rfl
theorem Wt.mono {d : PyData} {w k w' k' : Nat} (h : Wt d w k) (hw : w ≤ w') (hk : k ≤ k') : Wt d w' k' := ⟨h.s, h.l, h.c, Nat.le_trans h.w hw, Nat.le_trans h.p hk⟩
theorem wt_all {w k : Nat} : ∀ {ds : List PyData}, (∀ d ∈ ds, Wt d w k) → PyData.showableAll ds = true ∧ PyData.leavesShortAll 10 ds = true ∧ PyData.canLayAll0 ds = true ∧ PyData.weightAll ds ≤ (w + 1) * ds.length ∧ PyData.depthAll ds ≤ k
  | [], _ => ⟨rfl, rfl, rfl, Nat.zero_le _, Nat.zero_le _⟩
  | d :: ds, h => by
    have h1 := h d List.mem_cons_self
    obtain ⟨a, b, c, e, f⟩ := wt_all (ds := ds) fun x hx => h x (List.mem_cons_of_mem _ hx)
    refine ⟨?_, ?_, ?_, ?_, ?_⟩
    · show (PyData.showable d && PyData.showableAll ds) = true
      rw [h1.s, a]; rfl
    · show (PyData.leavesShort 10 d && PyData.leavesShortAll 10 ds) = true
      rw [h1.l, b]; rfl
    · show (PyData.canLay0 d && PyData.canLayAll0 ds) = true
      rw [h1.c, c]; rfl
    · show PyData.weight d + 1 + PyData.weightAll ds ≤ _
      have := h1.w
      rw [List.length_cons, Nat.mul_succ]
      omega
    · show max (PyData.depth d) (PyData.depthAll ds) ≤ k
      exact Nat.max_le.mpr ⟨h1.p, f⟩
theorem Wt.list {w k n : Nat} {ds : List PyData} (h : ∀ d ∈ ds, Wt d w k) (hn : ds.length ≤ n) : Wt (.list ds) ((w + 1) * n) (k + 1) := by
  obtain ⟨a, b, c, e, f⟩ := wt_all h
  have hm : (w + 1) * ds.length ≤ (w + 1) * n := Nat.mul_le_mul_left _ hn
  exact ⟨by simpa only [PyData.showable] using a, by simpa only [PyData.leavesShort] using b, by simpa only [PyData.canLay0] using c, by simp only [PyData.weight]; omega, by simp only [PyData.depth]; omega⟩
theorem Wt.tuple {w k n : Nat} {ds : List PyData} (h : ∀ d ∈ ds, Wt d w k) (hn : ds.length ≤ n) : Wt (.tuple ds) ((w + 1) * n) (k + 1) := by
  obtain ⟨a, b, c, e, f⟩ := wt_all h
  have hm : (w + 1) * ds.length ≤ (w + 1) * n := Nat.mul_le_mul_left _ hn
  exact ⟨by simpa only [PyData.showable] using a, by simpa only [PyData.leavesShort] using b, by simpa only [PyData.canLay0] using c, by simp only [PyData.weight]; omega, by simp only [PyData.depth]; omega⟩
theorem Wt.non : Wt .none 0 0 := ⟨rfl, rfl, rfl, by simp [PyData.weight], by simp [PyData.depth]⟩
theorem Wt.bool (b : Bool) : Wt (.bool b) 0 0 := ⟨rfl, rfl, rfl, by simp [PyData.weight], by simp [PyData.depth]⟩
theorem Wt.int {n : Int} (h : n.natAbs < 1000000000) : Wt (.int n) 30 0 := by
  have hlog : n.natAbs.log2 < 30 := by
    by_cases e : n.natAbs = 0
    · rw [e]; decide
    · exact (Nat.log2_lt e).mpr (Nat.lt_trans h (by decide))
  refine ⟨?_, ?_, rfl, ?_, by simp [PyData.depth]⟩
  · simp only [PyData.showable, decide_eq_true_eq]; omega
  · simp only [PyData.leavesShort, decide_eq_true_eq]
    have e := int_text_length_le10 (a := n) (k := 9) (by decide) h
    simp only [PyData.shown]
    rw [PySem.ofString_length]
    omega
  · simp only [PyData.weight]; split <;> omega
theorem Wt.nat {n : Nat} (h : n < 1000000000) : Wt (.int (n : Int)) 30 0 := Wt.int (by omega)
theorem Wt.text {l : List Nat} {n : Nat} (h : ∀ c ∈ l, c < 1114112) (hn : l.length ≤ n) : Wt (.str (tS l)) n 0 := by
  refine ⟨rfl, ?_, ?_, by simpa [PyData.weight, tS] using hn, by simp [PyData.depth]⟩
  · simp only [PyData.leavesShort, List.all_eq_true, decide_eq_true_eq]
    intro c hc
    have := h c (by simpa [tS] using hc)
    have e : 16 ^ 8 = 4294967296 := by decide
    omega
  · show PyData.strOk (tS l) = true
    unfold PyData.strOk
    rw [Array.all_eq_true_iff_forall_mem]
    intro c hc
    exact decide_eq_true (h c (by simpa [tS] using hc))
theorem Wt.nats {l : List Nat} {n : Nat} (h : ∀ c ∈ l, c < 1000000000) (hn : l.length ≤ n) : Wt (.list (dN l)) (31 * n) 1 := by
  refine Wt.list (w := 30) (k := 0) (fun d hd => ?_) (by unfold dN; rw [List.length_map]; exact hn)
  obtain ⟨c, hc, rfl⟩ := List.mem_map.mp hd
  exact Wt.nat (h c hc)
theorem Wt.natsT {l : List Nat} {n : Nat} (h : ∀ c ∈ l, c < 1000000000) (hn : l.length ≤ n) : Wt (.tuple (dN l)) (31 * n) 1 := by
  refine Wt.tuple (w := 30) (k := 0) (fun d hd => ?_) (by unfold dN; rw [List.length_map]; exact hn)
  obtain ⟨c, hc, rfl⟩ := List.mem_map.mp hd
  exact Wt.nat (h c hc)
theorem Wt.bools {l : List Bool} {n : Nat} (hn : l.length ≤ n) : Wt (.list (dB l)) n 1 := by
  have := Wt.list (w := 0) (k := 0) (n := n) (ds := dB l) (fun d hd => ?_) (by unfold dB; rw [List.length_map]; exact hn)
  · exact this.mono (by omega) (Nat.le_refl _)
  · obtain ⟨c, hc, rfl⟩ := List.mem_map.mp hd
    exact Wt.bool c
theorem Wt.boolsT {l : List Bool} {n : Nat} (hn : l.length ≤ n) : Wt (.tuple (dB l)) n 1 := by
  have := Wt.tuple (w := 0) (k := 0) (n := n) (ds := dB l) (fun d hd => ?_) (by unfold dB; rw [List.length_map]; exact hn)
  · exact this.mono (by omega) (Nat.le_refl _)
  · obtain ⟨c, hc, rfl⟩ := List.mem_map.mp hd
    exact Wt.bool c
/-! ### == of data -/
theorem eqv_map {α : Type} [DecidableEq α] (f : α → PyData) (hf : ∀ a b, PyData.eqv (f a) (f b) = decide (a = b)) : ∀ l m : List α, PyData.eqvAll (l.map f) (m.map f) = decide (l = m)
  | [], [] => by simp [PyData.eqvAll]
  | [], b :: m => by simp [PyData.eqvAll]
  | a :: l, [] => by simp [PyData.eqvAll]
  | a :: l, b :: m => by
    show (PyData.eqv (f a) (f b) && PyData.eqvAll (l.map f) (m.map f)) = _
    rw [hf, eqv_map f hf l m]
    by_cases h1 : a = b
    · by_cases h2 : l = m
      · subst h1 h2; simp
      · simp [h2]
    · simp [h1]
theorem eqv_dN (l m : List Nat) : PyData.eqvAll (dN l) (dN m) = decide (l = m) := eqv_map _ (fun a b => by
  show ((a : Int) == (b : Int)) = _
  by_cases h : a = b
  · subst h; simp
  · rw [decide_eq_false h]; exact beq_eq_false_iff_ne.mpr (by omega)) l m
theorem eqv_dB (l m : List Bool) : PyData.eqvAll (dB l) (dB m) = decide (l = m) := eqv_map _ (fun a b => by
  show (a == b) = _
  by_cases h : a = b
  · subst h; simp
  · rw [decide_eq_false h]; exact beq_eq_false_iff_ne.mpr h) l m
end L3
/-! Methods and classes called by keywords alone. -/
namespace L3
open PySem PySem.Spec PyProof.Rows L2
def tMethK (C : Addr) (m : Str) (sp : Sp) (gV : List V → List V → List V) (E : XK) (ta : TE) (tk : TA) : TE := fun σ H Q => ta σ H fun x H1 => ∃ a dx fs, x = .ref a ∧ H1 a = some (.ins C dx fs) ∧ fs.lookup m = none ∧
  tk σ H1 fun zs H2 => sp (gV [.ref a] zs) H2 Q E
section
variable {X : Cx} {CX : CXT} {k : Nat} {C f : Addr} {fd : FuncData} {ps ks : List Str} {sp : Sp} {E : XK} {m : Str} {apos pos : Pos} {o : Expr} {kws : List Keyword} {ta : TE} {tk : TA} {g : List Value → List Value → List Value} {gV : List V → List V → List V}
/-- o.m(k = v, ..) -/
theorem pe_methK {pl : Sem Bool} (he : PE X o ta) (c : Cls X.K C) (hm : Meth X.K C m f) (F : FnOk X.prog X.w X.K X.mg X.base CX k f fd ps sp) (hr : Room k X.A) (hb : KBinds X.K fd ps ks g gV) (hx : Passes CX X E)
    (hkw : PK X kws tk) (hall : (backToKw pos (keywordEach kws X.env)).all (·.1.isSome) = true := by rfl) (hks : (backToKw pos (keywordEach kws X.env)).filterMap (·.1) = ks := by rfl)
    (hpl : ((backTo pos (starEach [] X.env)).any (·.1) || (backToKw pos (keywordEach kws X.env)).any (·.1.isNone)) = false := by rfl)
    (ht : eval (.Call (.Attribute o m apos) [] kws pos) X.env = (do
      let ov ← eval o X.env
      standAt apos.atName
      let (f, first) ← holding [ov] (getMethod ov m pl)
      callWith pos f first (backTo pos (starEach [] X.env)) (backToKw pos (keywordEach kws X.env))) := by rfl) :
    PE X (.Call (.Attribute o m apos) [] kws pos) (tMethK C m sp gV E ta tk) := by
  refine ⟨fun pins s σ H Q I h => ?_⟩
  refine PySem.W.methodCall_KW (pl := pl) (thn (he.run pins s σ H _ I h) fun u s1 ⟨x, H1, I1, rx, a, dx, fs, ex, ea, l, q⟩ => ?_) ht
  subst ex
  obtain rfl : u = Value.ref a := rx
  refine getmeth_ok I1 ea c hm l ?_
  refine PySem.W.callWith_KW0 (first := [.ref a]) (h₀ := X.base) I.ok.mod.kin hm.kp hall (thn (hkw.run pos pins s1 σ H1 _ I1 q) fun ws s2 ⟨zs, H2, I2, rz, q2⟩ => ⟨I2.kIn, ?_⟩) hpl
  rw [hks]
  exact run_fnk (us := [.ref a]) (vs := [.ref a]) F hr hb hx I2 (.cons rfl .nil) rz q2
end
/-! ### how keywords are bound -/
def mk1 {α : Type} : List α → List α → List α
  | [s], [w] => [s, w]
  | _, _ => []
def mk2 {α : Type} : List α → List α → List α
  | [s], [w, v] => [s, v, w]
  | _, _ => []
def mk3 {α : Type} : List α → List α → List α
  | [s], [w, v, u] => [s, u, v, w]
  | _, _ => []
theorem paired1 {vs : List V} {us : List Value} {x : Value} (r : Vals vs us) (h : us = [x]) : ∃ y, vs = [y] ∧ RelV y x := by
  subst h
  cases r with
  | cons a t => cases t; exact ⟨_, rfl, a⟩
theorem mk1_rel {vs : List V} {us : List Value} {zs : List V} {ws : List Value} (r : Vals vs us) (t : Vals zs ws) : Vals (mk1 vs zs) (mk1 us ws) := by
  match vs, us, zs, ws, r, t with
  | _, _, _, _, .nil, .nil => exact .nil
  | _, _, _, _, .nil, .cons _ _ => exact .nil
  | _, _, _, _, .cons a .nil, .nil => exact .nil
  | _, _, _, _, .cons a .nil, .cons b .nil => exact .cons a (.cons b .nil)
  | _, _, _, _, .cons a .nil, .cons b (.cons _ _) => exact .nil
  | _, _, _, _, .cons a (.cons _ _), .nil => exact .nil
  | _, _, _, _, .cons a (.cons _ _), .cons b _ => exact .nil
theorem mk2_rel {vs : List V} {us : List Value} {zs : List V} {ws : List Value} (r : Vals vs us) (t : Vals zs ws) : Vals (mk2 vs zs) (mk2 us ws) := by
  match vs, us, zs, ws, r, t with
  | _, _, _, _, .nil, .nil => exact .nil
  | _, _, _, _, .nil, .cons _ _ => exact .nil
  | _, _, _, _, .cons a .nil, .nil => exact .nil
  | _, _, _, _, .cons a .nil, .cons b .nil => exact .nil
  | _, _, _, _, .cons a .nil, .cons b (.cons c .nil) => exact .cons a (.cons c (.cons b .nil))
  | _, _, _, _, .cons a .nil, .cons b (.cons c (.cons _ _)) => exact .nil
  | _, _, _, _, .cons a (.cons _ _), .nil => exact .nil
  | _, _, _, _, .cons a (.cons _ _), .cons b _ => exact .nil
theorem mk3_rel {vs : List V} {us : List Value} {zs : List V} {ws : List Value} (r : Vals vs us) (t : Vals zs ws) : Vals (mk3 vs zs) (mk3 us ws) := by
  match vs, us, zs, ws, r, t with
  | _, _, _, _, .nil, .nil => exact .nil
  | _, _, _, _, .nil, .cons _ _ => exact .nil
  | _, _, _, _, .cons a .nil, .nil => exact .nil
  | _, _, _, _, .cons a .nil, .cons b .nil => exact .nil
  | _, _, _, _, .cons a .nil, .cons b (.cons c .nil) => exact .nil
  | _, _, _, _, .cons a .nil, .cons b (.cons c (.cons d .nil)) => exact .cons a (.cons d (.cons c (.cons b .nil)))
  | _, _, _, _, .cons a .nil, .cons b (.cons c (.cons d (.cons _ _))) => exact .nil
  | _, _, _, _, .cons a (.cons _ _), .nil => exact .nil
  | _, _, _, _, .cons a (.cons _ _), .cons b _ => exact .nil
section
variable {K : PySem.W.Frag} {x qual n m r : Str} {st : Stmt} {f : Addr} {fd : FuncData}
/-- o.x(n = v) -/
theorem kbm1 (F : Fun K x qual st f fd)
    (h : ∀ (kV doc pm : Value) (an : Option Addr) (cdv ct s w : Value), bindArgs (PySem.W.fnOf x qual (defArgs st) (defBody st) (defScope st) .none kV doc pm an cdv ct) ⟨[s], [(n, w)]⟩ = pure [(("self" : Str), s), (n, w)]) : KBinds K fd ["self", n] [n] mk1 mk1 := by
  refine ⟨fun s us ws X hl => ?_, mk1_rel⟩
  obtain ⟨oc, od, kV, doc, pm, an, cdv, ct, osl, rfl, lk, hcd⟩ := F.ex
  match us, ws, hl with
  | [u], [w], _ => exact .of_eq (h kV doc pm an cdv ct u w)
/-- o.x(m = w, n = v), the other way round -/
theorem kbm2 (F : Fun K x qual st f fd)
    (h : ∀ (kV doc pm : Value) (an : Option Addr) (cdv ct s w v : Value), bindArgs (PySem.W.fnOf x qual (defArgs st) (defBody st) (defScope st) .none kV doc pm an cdv ct) ⟨[s], [(m, w), (n, v)]⟩ = pure [(("self" : Str), s), (n, v), (m, w)]) : KBinds K fd ["self", n, m] [m, n] mk2 mk2 := by
  refine ⟨fun s us ws X hl => ?_, mk2_rel⟩
  obtain ⟨oc, od, kV, doc, pm, an, cdv, ct, osl, rfl, lk, hcd⟩ := F.ex
  match us, ws, hl with
  | [u], [w, v], _ => exact .of_eq (h kV doc pm an cdv ct u w v)
/-- C(r = w, m = v, n = u), the other way round -/
theorem kbn3 (F : Fun K x qual st f fd)
    (h : ∀ (kV doc pm : Value) (an : Option Addr) (cdv ct s w v u : Value), bindArgs (PySem.W.fnOf x qual (defArgs st) (defBody st) (defScope st) .none kV doc pm an cdv ct) ⟨[s], [(r, w), (m, v), (n, u)]⟩ = pure [(("self" : Str), s), (n, u), (m, v), (r, w)]) : KBn K fd ["self", n, m, r] 1 [r, m, n] mk3 mk3 := by
  refine ⟨fun s us ws X hl hw => ?_, mk3_rel⟩
  obtain ⟨oc, od, kV, doc, pm, an, cdv, ct, osl, rfl, lk, hcd⟩ := F.ex
  match us, ws, hl, hw with
  | [a], [w, v, u], _, _ => exact .of_eq (h kV doc pm an cdv ct a w v u)
end
end L3
/-! Comprehensions whose items are data in the heap. -/
namespace L3
open PySem PySem.Spec PyProof.Rows L2
/-- without what stands at D -/
def del (H : Hp) (D : Addr) : Hp := fun b => if b = D then none else H b
theorem del_upd (H : Hp) (D : Addr) (o : HO) : del (upd H D o) D = del H D := by
  funext b; unfold del upd
  by_cases h : b = D
  · rw [if_pos h, if_pos h]
  · rw [if_neg h, if_neg h, if_neg h]
theorem del_none {H : Hp} {D : Addr} (h : H D = none) : del H D = H := by
  funext b; unfold del
  by_cases e : b = D
  · rw [if_pos e, e, h]
  · rw [if_neg e]
theorem del_ne {H : Hp} {D b : Addr} (h : b ≠ D) : del H D b = H b := by unfold del; rw [if_neg h]
theorem del_same (H : Hp) (D : Addr) : Same (del H D) H := fun b o e => by
  unfold del at e
  by_cases h : b = D
  · rw [if_pos h] at e; cases e
  · rw [if_neg h] at e; exact e
theorem same_del {H H' : Hp} {D : Addr} (s : Same H H') (h : H D = none) : Same H (del H' D) := fun b o e => by
  rw [del_ne (ne_of_none e h)]; exact s b o e
theorem del_mono {H H' : Hp} (D : Addr) (s : Same H H') : Same (del H D) (del H' D) := fun b o e => by
  unfold del at e ⊢
  by_cases h : b = D
  · rw [if_pos h] at e; cases e
  · rw [if_neg h] at e ⊢; exact s b o e
/-- data does not look at instances -/
theorem sqL_del {K : PySem.W.Frag} {H : Hp} {x C dx a : Addr} {fs : List (Str × V)} {xs : List V} (hx : H x = some (.ins C dx fs)) (h : SqL K H a xs) : SqL K (del H x) a xs := by
  rcases h with (h | ⟨o, h⟩) | h
  · exact .inl (.inl (by rw [del_ne (ne_of h hx (by intro z; cases z))]; exact h))
  · exact .inl (.inr ⟨o, by rw [del_ne (ne_of h hx (by intro z; cases z))]; exact h⟩)
  · exact .inr h
theorem sqT_del {K : PySem.W.Frag} {H : Hp} {x C dx a : Addr} {fs : List (Str × V)} {xs : List V} (hx : H x = some (.ins C dx fs)) (h : SqT K H a xs) : SqT K (del H x) a xs := by
  rcases h with (h | ⟨o, h⟩) | h
  · exact .inl (.inl (by rw [del_ne (ne_of h hx (by intro z; cases z))]; exact h))
  · exact .inl (.inr ⟨o, by rw [del_ne (ne_of h hx (by intro z; cases z))]; exact h⟩)
  · exact .inr h
theorem sq_del {K : PySem.W.Frag} {H : Hp} {x C dx : Addr} {v : V} {fs : List (Str × V)} {xs : List V} (hx : H x = some (.ins C dx fs)) (h : Sq K H v xs) : Sq K (del H x) v xs := by
  obtain ⟨a, e, h⟩ := h
  exact ⟨a, e, h.elim (fun h => .inl (sqL_del hx h)) fun h => .inr (sqT_del hx h)⟩
mutual
theorem dp_del {K : PySem.W.Frag} {H : Hp} {x C dx : Addr} {fs : List (Str × V)} (hx : H x = some (.ins C dx fs)) : ∀ {v : V} {d : PyData}, Dp K H v d → Dp K (del H x) v d
  | _, _, .non => .non
  | _, _, .bl b => .bl b
  | _, _, .int i => .int i
  | _, _, .str x => .str x
  | _, _, .lst h a => .lst (sqL_del hx h) (dpAll_del hx a)
  | _, _, .tup h a => .tup (sqT_del hx h) (dpAll_del hx a)
theorem dpAll_del {K : PySem.W.Frag} {H : Hp} {x C dx : Addr} {fs : List (Str × V)} (hx : H x = some (.ins C dx fs)) : ∀ {vs : List V} {ds : List PyData}, DpAll K H vs ds → DpAll K (del H x) vs ds
  | _, _, .nil => .nil
  | _, _, .cons a b => .cons (dp_del hx a) (dpAll_del hx b)
end
theorem del_at (H : Hp) (D : Addr) : del H D D = none := by unfold del; rw [if_pos rfl]
/-- a comprehension: Pv of the list so far and the heap without it -/
theorem lc_dp {J : It} {n : Nat} {G : Hp → Prop} {Y : Nat → Hp → V → Hp → Prop} (w : Walk J n G Y) {g : TG} {tt : TT} {te : TE} {vs : List Nat} {σ : L2.St} {H1 : Hp} {D : Addr} {Qd : Hp → Prop} (Pv : Nat → List V → Hp → Prop) (hz : n ≤ sizeLine) (hA : ∀ i acc H, Pv i acc H → acc.length ≤ i)
    (nD : H1 D = none) (h0 : Pv 0 [] H1) (hG : ∀ i acc H, Pv i acc (del H D) → H D = some (.lst acc) → G H)
    (hs : ∀ i x H H' acc (C : VK) (N : Hp → Prop), i < n → Pv i acc (del H D) → H D = some (.lst acc) → Y i H x H' → (∀ v H4, H4 D = some (.lst acc) → Pv (i + 1) (acc ++ [v]) (del H4 D) → C v H4) → (∀ H3, H3 D = some (.lst acc) → Pv (i + 1) acc (del H3 D) → N H3) →
      g x (wipe σ vs) H' fun σ2 H2 => wipe σ2 vs = wipe σ vs ∧ tt σ2 H2 fun b H3 => if b = true then te σ2 H3 C else N H3)
    (hd : ∀ H xs, H D = some (.lst xs) → Pv n xs (del H D) → Qd H) :
    ∃ W : Nat → Nat → Hp → Prop, (∃ m, W 0 m (upd H1 D (.lst []))) ∧ ∀ i m H, W i m H →
      (J.stop i H ∧ Qd H) ∨ (J.go i H ∧ ∃ Nx : Hp → Prop, (∀ H', Nx H' → ∃ m', m' < m ∧ W (i + 1) m' H') ∧ ∀ x H', J.yld i H x H' → g x (wipe σ vs) H' fun σ2 H2 => wipe σ2 vs = wipe σ vs ∧ tt σ2 H2 fun b H3 =>
        if b = true then te σ2 H3 fun y H4 => ∃ acc, H4 D = some (.lst acc) ∧ acc.length < sizeLine ∧ Nx (upd H4 D (.lst (acc ++ [y]))) else Nx H3) := by
  refine lc_it w (fun i H => ∃ acc, H D = some (.lst acc) ∧ Pv i acc (del H D)) ⟨[], upd_same, by rw [del_upd, del_none nD]; exact h0⟩ (fun i H _ p => by obtain ⟨acc, h1, h2⟩ := p; exact hG i acc H h2 h1) (fun i x H H' hi p y => ?_) fun H p => ?_
  · obtain ⟨acc, hD, ha⟩ := p
    refine hs i x H H' acc _ _ hi ha hD y (fun v H4 d4 a4 => ⟨acc, d4, ?_, _, upd_same, by rw [del_upd]; exact a4⟩) (fun H3 d3 a3 => ⟨acc, d3, a3⟩)
    have := hA i acc _ ha
    omega
  · obtain ⟨acc, hD, ha⟩ := p
    exact hd H acc hD ha
/-- .. of data, one item a turn, where all else stays -/
theorem lc_data {K : PySem.W.Frag} {J : It} {n : Nat} {G : Hp → Prop} {Y : Nat → Hp → V → Hp → Prop} (w : Walk J n G Y) {g : TG} {te : TE} {vs : List Nat} {σ : L2.St} {H1 : Hp} {D : Addr} {Qd : Hp → Prop} (ds : List PyData) (hn : ds.length = n) (hz : n ≤ sizeLine)
    (nD : H1 D = none) (hG : ∀ H, Same H1 H → G H)
    (hs : ∀ i x H H' acc d (C : VK), i < n → Same H1 H → H D = some (.lst acc) → Y i H x H' → ds[i]? = some d → (∀ v H4, Same H H4 → Dp K (del H4 D) v d → C v H4) → g x (wipe σ vs) H' fun σ2 H2 => wipe σ2 vs = wipe σ vs ∧ te σ2 H2 C)
    (hgm : ∀ x σ H (Q Q' : L2.St → Hp → Prop), (∀ σ2 H2, Q σ2 H2 → Q' σ2 H2) → g x σ H Q → g x σ H Q')
    (hd : ∀ H xs, Same H1 H → H D = some (.lst xs) → DpAll K (del H D) xs ds → Qd H) :
    ∃ W : Nat → Nat → Hp → Prop, (∃ m, W 0 m (upd H1 D (.lst []))) ∧ ∀ i m H, W i m H →
      (J.stop i H ∧ Qd H) ∨ (J.go i H ∧ ∃ Nx : Hp → Prop, (∀ H', Nx H' → ∃ m', m' < m ∧ W (i + 1) m' H') ∧ ∀ x H', J.yld i H x H' → g x (wipe σ vs) H' fun σ2 H2 => wipe σ2 vs = wipe σ vs ∧ tYes σ2 H2 fun b H3 =>
        if b = true then te σ2 H3 fun y H4 => ∃ acc, H4 D = some (.lst acc) ∧ acc.length < sizeLine ∧ Nx (upd H4 D (.lst (acc ++ [y]))) else Nx H3) := by
  refine lc_dp w (fun i acc H => Same H1 H ∧ DpAll K H acc (ds.take i)) hz (fun i acc H p => ?_) nD ⟨Same.refl _, .nil⟩ (fun i acc H p _ => hG H (p.1.trans (del_same _ _))) (fun i x H H' acc C N hi p hD y c nn => ?_) (fun H xs hD p => ?_)
  · rw [dpAll_len p.2, List.length_take]; omega
  · have hlt : i < ds.length := by omega
    refine hgm _ _ _ _ _ (fun σ2 H2 h => ⟨h.1, yes_te h.2⟩) (hs i x H H' acc ds[i] C hi (p.1.trans (del_same _ _)) hD y (List.getElem?_eq_getElem hlt) fun v H4 s4 d4 => ?_)
    have s5 := del_mono D s4
    refine c v H4 (s4 _ _ hD) ⟨p.1.trans s5, ?_⟩
    rw [List.take_add_one, List.getElem?_eq_getElem hlt]
    exact dpAll_app (DpAll.same s5 p.2) (.cons d4 .nil)
  · have e : ds.take n = ds := by rw [← hn]; exact List.take_length
    rw [e] at p
    exact hd H xs (p.1.trans (del_same _ _)) hD p.2
theorem gName_mono {i : Nat} : ∀ x σ H (Q Q' : L2.St → Hp → Prop), (∀ σ2 H2, Q σ2 H2 → Q' σ2 H2) → gName i x σ H Q → gName i x σ H Q' := fun _ _ _ _ _ h q => h _ _ q
end L3
/-! The rules with the written part told by name (within comprehensions). -/
namespace L3
open PySem PySem.Spec PyProof.Rows L2
section
variable {X : Cx} {K : PySem.W.Frag}
theorem ix_listK (h : X.K = K) : IxR X (rIxL K) := h ▸ ix_list
theorem ix_tupK (h : X.K = K) : IxR X (rIxT K) := h ▸ ix_tup
theorem ix_sqK (h : X.K = K) : IxR X (fun x y H Q => ∃ xs i v, Sq K H x xs ∧ y = .int i ∧ atI xs i = some v ∧ Q v H) := h ▸ ix_sq
theorem call_len_seqK (h : X.K = K) : CallR X (.builtin "len") (fun xs H Q => ∃ p ys, xs = [.ref p] ∧ (SqL K H p ys ∨ SqT K H p ys) ∧ Q (.int ys.length) H) := h ▸ call_len_seq
theorem call_list_ofK (h : X.K = K) : CallR X (.type "list") (fun xs H Q => ∃ p ys, xs = [.ref p] ∧ (SqL K H p ys ∨ SqT K H p ys) ∧ ∀ l, H l = none → Q (.ref l) (upd H l (.lst ys))) := h ▸ call_list_of
theorem call_tuple_ofK (h : X.K = K) : CallR X (.type "tuple") (fun xs H Q => ∃ p ys, xs = [.ref p] ∧ ((SqL K H p ys ∧ ∀ l, H l = none → Q (.ref l) (upd H l (.tup ys))) ∨ (SqT K H p ys ∧ Q (.ref p) H))) := h ▸ call_tuple_of
theorem op_inNK (h : X.K = K) : OpR X (compareOp .In) (fun x y H Q => ∃ (l : List Nat) (n : Nat), x = .int (n : Int) ∧ Sq K H y (nV l) ∧ Q (.bl (decide (n ∈ l))) H) := h ▸ op_inN
theorem op_notInNK (h : X.K = K) : OpR X (compareOp .NotIn) (fun x y H Q => ∃ (l : List Nat) (n : Nat), x = .int (n : Int) ∧ Sq K H y (nV l) ∧ Q (.bl (!decide (n ∈ l))) H) := h ▸ op_notInN
theorem op_eqDK (h : X.K = K) (hu : X.A.units + 64 < cLine) : OpR X (compareOp .Eq) (rEqD K) := h ▸ op_eqD hu
theorem op_neDK (h : X.K = K) (hu : X.A.units + 64 < cLine) : OpR X (compareOp .NotEq) (rNeD K) := h ▸ op_neD hu
theorem mt_indexNK (h : X.K = K) : MtR X "list.index" (fun x xs H Q => ∃ (a : Addr) (l : List Nat) (n : Nat), x = .ref a ∧ xs = [.int (n : Int)] ∧ SqL K H a (nV l) ∧ n ∈ l ∧ Q (.int ((l.idxOf n : Nat) : Int)) H) := h ▸ mt_indexN
theorem pi_listK {tg l : Expr} {tl : TE} (h : X.K = K) (hl : PE X l tl) : PI X tg l (iList K tl) := h ▸ pi_list hl
theorem pi_tupK {tg l : Expr} {tl : TE} (h : X.K = K) (hl : PE X l tl) : PI X tg l (iTup K tl) := h ▸ pi_tup hl
theorem pi_sqK {tg l : Expr} {tl : TE} (h : X.K = K) (hl : PE X l tl) : PI X tg l (iSq K tl) := h ▸ pi_sq hl
theorem pi_zipSK {e e2 : Expr} {ta : TA} {p pos tpos : Pos} {elts : List Expr} {kk : Nat} (h : X.K = K) (hg : Gl X "zip") (hm : X.mg "zip" = none) (ha : PA X [e, e2] ta)
    (hs : starEach [e, e2] X.env = (false, eval e X.env) :: starEach [e2] X.env := by rfl) (hpl : (backTo pos (starEach [e2] X.env)).any (·.1) = false := by rfl) :
    PI X (.Tuple elts kk tpos) (.Call (.Name "zip" p) [e, e2] [] pos) (iZipS K ta) := h ▸ pi_zipS hg hm ha hs hpl
theorem pi_enumSK {e : Expr} {ta : TA} {p pos tpos : Pos} {elts : List Expr} {kk : Nat} (h : X.K = K) (hg : Gl X "enumerate") (hm : X.mg "enumerate" = none) (ha : PA X [e] ta) (hs : starEach [e] X.env = [(false, eval e X.env)] := by rfl) :
    PI X (.Tuple elts kk tpos) (.Call (.Name "enumerate" p) [e] [] pos) (iEnumS K ta) := h ▸ pi_enumS hg hm ha hs
theorem pe_fldK {e : Expr} {f : Str} {pos : Pos} {ta : TE} (h : X.K = K) (he : PE X e ta) (hb : attributeBase e f X.env (eval e X.env) = eval e X.env) : PE X (.Attribute e f pos) (tFld K ta f) := h ▸ pe_fld he hb
theorem pe_conK {e : Expr} {f : Str} {pos : Pos} {ta : TE} (h : X.K = K) (he : PE X e ta) (hb : attributeBase e f X.env (eval e X.env) = eval e X.env) : PE X (.Attribute e f pos) (tCon K ta f) := h ▸ pe_con he hb
theorem pg_tupK {es : List Expr} {k : Nat} {pos : Pos} {t : TGs} {n : Nat} (h : X.K = K) (hc : X.calm = true) (hp : PGs X es t)
    (hn : (assignEach es X.env).length = n) (hst : (assignEach es X.env).findIdx? (·.1) = none := by rfl) : PG X (.Tuple es k pos) (gTup K n t) := h ▸ pg_tup hc hp hn hst
theorem call_reprDK {k : Nat} (h : X.K = K) (hr : Room k X.A) (hG : X.A.guards = some []) : CallR X (.builtin "repr") (rRepr K) := h ▸ call_reprD hr hG
theorem sl_listK (h : X.K = K) : SlR X (rSlL K) := h ▸ sl_list
theorem cr_sortSetTK {w : World} (h : X.w = w) (hc : X.calm = true) : CallR X (.builtin "sorted") (fun xs H Q => ∃ (a : Addr) (L : List (List Nat)), xs = [.ref a] ∧ H a = some (TSet w a L) ∧
    ∀ (L' : List (List Nat)) (p : Addr), L'.Perm L → L'.Pairwise (· < ·) → H p = none → Q (.ref p) (upd H p (.lst (L'.map tx)))) := h ▸ cr_sortSetT hc
theorem pe_bmk {T id : String} {name : Str} {o e : Expr} {es : List Expr} {apos cpos : Pos} {r : V → List V → Hp → VK → Prop} {to : TE} {t : TA} (h : X.K = K) (pa : PlainAttrs T) (slot : Slot T name id) (hty : typeOf (.builtin id) = pure (.type "method_descriptor")) (hm : MtR X id r) (ho : PE X o to) (ha : PA X (e :: es) t)
    (hbase : attributeBase o name X.env (eval o X.env) = eval o X.env := by rfl)
    (hfew : ((backTo cpos (starEach (e :: es) X.env)).all (fun x => !x.1) && (backToKw cpos (keywordEach [] X.env)).all (fun x => x.1.isSome)
      && decide ((e :: es).length + ([] : List Keyword).length + (if ([] : List Keyword).isEmpty then 0 else 1) < 30)) = true := by rfl)
    (hline : (apos.endLine == cpos.line) = true := by rfl) (hs : starEach (e :: es) X.env = (false, eval e X.env) :: starEach es X.env := by rfl) (hplain : (backTo cpos (starEach es X.env)).any (·.1) = false := by rfl) :
    PE X (.Call (.Attribute o name apos) (e :: es) [] cpos) (tBM K T r to t) := h ▸ pe_bm pa slot hty hm ho ha hbase hfew hline hs hplain
theorem pe_bm0k {T id : String} {name : Str} {o : Expr} {apos cpos : Pos} {r : V → List V → Hp → VK → Prop} {to : TE} (h : X.K = K) (pa : PlainAttrs T) (slot : Slot T name id) (hty : typeOf (.builtin id) = pure (.type "method_descriptor")) (hm : MtR X id r) (ho : PE X o to)
    (hbase : attributeBase o name X.env (eval o X.env) = eval o X.env := by rfl) (hline : (apos.endLine == cpos.line) = true := by rfl) : PE X (.Call (.Attribute o name apos) [] [] cpos) (tBM0 K T r to) := h ▸ pe_bm0 pa slot hty hm ho hbase hline
variable {C f : Addr} {fd : FuncData} {k : Nat} {sp : Sp} {y : Str}
theorem op_eqOwnK (h : X.K = K) (F : FnOkG X.prog X.w X.K X.mg X.base CX0 k f fd ["self", y] sp) (hr : Room k X.A) (hG : X.A.guards = some []) (hb : L2.Binds X.K fd ["self", y] []) (m : Meth X.K C "__eq__" f) :
    OpR X (compareOp .Eq) (fun o x H Q => ∃ a dx fs t, o = .ref a ∧ H a = some (.ins C dx fs) ∧ TyX K H x t ∧ PySem.W.notFirst K C t = true ∧ sp [.ref a, x] H (fun v H' => ∃ b : Bool, v = .bl b ∧ Q (.bl b) H') E0) := by
  subst h; exact op_eqOwn F hr hG hb m
theorem op_neOwnK (h : X.K = K) (F : FnOkG X.prog X.w X.K X.mg X.base CX0 k f fd ["self", y] sp) (hr : Room (k + 1) X.A) (hG : X.A.guards = some []) (hb : L2.Binds X.K fd ["self", y] []) (m : Meth X.K C "__eq__" f)
    (hm : PySem.W.mroIn X.K C (.type "object") = some true) (hne : PySem.W.findIn X.K (.ref C) "__ne__" = some (some (.builtin "object.__ne__"))) :
    OpR X (compareOp .NotEq) (fun o x H Q => ∃ a dx fs t, o = .ref a ∧ H a = some (.ins C dx fs) ∧ TyX K H x t ∧ PySem.W.notFirst K C t = true ∧ sp [.ref a, x] H (fun v H' => ∃ b : Bool, v = .bl b ∧ Q (.bl (!b)) H') E0) := by
  subst h; exact op_neOwn F hr hG hb m hm hne
end
end L3
/-! Own classes: ~o, o op o, o op= o by the class's own methods. -/
namespace L3
open PySem PySem.Spec PyProof.Rows L2
section
variable {X : Cx} {C f : Addr} {fd : FuncData} {k : Nat} {sp : Sp} {y : Str}
/-- ~o -/
theorem un_inv (F : FnOk X.prog X.w X.K X.mg X.base CX0 k f fd ["self"] sp) (hr : Room k X.A) (hb : L2.Binds X.K fd ["self"] []) (m : Meth X.K C "__invert__" f) :
    UnR X (unaryOp .Invert) (fun x H Q => ∃ a dx fs, x = .ref a ∧ H a = some (.ins C dx fs) ∧ sp [.ref a] H Q E0) := by
  intro pins s σ H x v Q I rx h
  obtain ⟨a, dx, fs, rfl, ha, h⟩ := h
  cases rx
  obtain ⟨mA, O, _⟩ := ins_get I.hok ha
  obtain ⟨od, J, _⟩ := O.look
  obtain ⟨mm, FF⟩ := I.fr
  refine PySem.W.ksp_inv FF I.ok.mod.kin J m.at_ m.fn ?_
  exact run_fn (vs := [.ref a]) (us := [.ref a]) F hr hb .nil pass0 I (.cons rfl .nil) (by simpa using h)
/-- the answer is an object -/
def refQ (Q : VK) : VK := fun v H => ∃ p : Addr, v = .ref p ∧ Q (.ref p) H
/-- o op o -/
theorem op_own {op : Operator} (F : FnOk X.prog X.w X.K X.mg X.base CX0 k f fd ["self", y] sp) (hr : Room k X.A) (hb : L2.Binds X.K fd ["self", y] []) (m : Meth X.K C (PySem.dunder op.info.2) f) (hc : PySem.W.selfFirst X.K C = true) :
    OpR X (binaryOp op) (fun x z H Q => ∃ a dx fs b dy gs, x = .ref a ∧ z = .ref b ∧ H a = some (.ins C dx fs) ∧ H b = some (.ins C dy gs) ∧ sp [.ref a, .ref b] H (refQ Q) E0) := by
  intro pins s σ H x z v u Q I rx rz h
  obtain ⟨a, dx, fs, b, dy, gs, rfl, rfl, ha, hb', h⟩ := h
  cases rx
  cases rz
  obtain ⟨mA, O, _⟩ := ins_get I.hok ha
  obtain ⟨od, J, _⟩ := O.look
  obtain ⟨mA', O', _⟩ := ins_get I.hok hb'
  obtain ⟨od', J', _⟩ := O'.look
  obtain ⟨mm, FF⟩ := I.fr
  refine PySem.W.binop_K FF I.ok.mod.kin J J'.type hc m.at_ m.fn ?_
  refine thn (run_fn (vs := [.ref a, .ref b]) (us := [.ref a, .ref b]) F hr hb .nil pass0 I (.cons rfl (.cons rfl .nil)) (by simpa using h)) fun r s' hq => ?_
  obtain ⟨w, H', I', rw', p, rfl, q⟩ := hq
  cases rw'
  exact ⟨.ref p, H', I', rfl, q⟩
end
section
variable {M : Model} {prog : Program} {w : World} {A : Around} {E : Value → Shared → Prop} {s : Shared} {K : PySem.W.Frag} {x C f L : Addr} {h₀ : Heap} {m : Str → Option Value} {ox : Obj} {od : Option Obj}
/-- o op= o without a method of that name -/
theorem aug_K {op : Operator} {b : Value} {Q : Value → Shared → Prop} (X : K.In s.heap) (I : PySem.W.InstAt s.heap x ox C od) (hb : PySem.W.Looks (model prog w) s.heap (typeOf b) (.ref C)) (hc : PySem.W.selfFirst K C = true)
    (hs : PySem.W.findIn K (.ref C) (PySem.dunder op.info.2) = some (some (.ref f))) (hf : PySem.W.isFn K (.ref f) = true) (hno : PySem.W.Looks (model prog w) s.heap (fillsInplaceSlot (.ref C) op.info.2 (op == .Add)) false)
    (h : wpAny (model prog w) A (call (.ref f) [.ref x, b]) (PySem.W.CmpBack Q) E s) : wpAny (model prog w) A (inplaceOp op (.ref x) b) Q E s := by
  obtain ⟨cd, hcd, hm⟩ := PySem.W.any_some hc
  obtain ⟨rest, hm⟩ : ∃ rest, cd.mro = .ref C :: rest := by
    cases q : cd.mro with
    | nil => rw [q] at hm; cases hm
    | cons a r => rw [q] at hm; exact ⟨r, by rw [List.head?_cons] at hm; cases (beq_iff_eq.mp hm); rfl⟩
  unfold inplaceOp
  refine wpAny_holding (wpAny_bind (I.type.here (wpAny_bind (hno.here ?_))))
  simp only [Bool.false_eq_true, if_false]
  refine wpAny_bind ?_
  unfold binaryOp1
  refine wpAny_bind (I.type.here (wpAny_bind (hb.here (wpAny_bind ((PySem.W.fills_K X hcd hm hs).here ?_)))))
  simp only [beq_self_eq_true, if_true]
  refine wpAny_bind (wpAny_pure ?_)
  simp only [Bool.and_false, Bool.false_eq_true, if_false, Bool.false_and]
  refine wpAny_bind (wpAny_pure ?_)
  simp only [Bool.false_eq_true, if_false]
  refine wpAny_bind (m := tryMethod (.ref x) _ b) ?_
  unfold tryMethod
  refine wpAny_bind (PySem.W.special_fn X I hs (beq_iff_eq.mp hf) (wpAny_mono h (fun v s' hv => ?_) fun _ _ e => e))
  cases v <;> first | exact hv.elim | exact wpAny_pure (wpAny_pure (wpAny_pure hv))
/-- no method of that name in the class or in object -/
theorem no_fills {cd : ClassData} {nm : String} {add : Bool} {h : Heap} (X : K.In h) (hcd : PySem.W.clsIn K C = some cd) (hm : cd.mro = [.ref C, .type "object"]) (h1 : PySem.W.findIn K (.ref C) (dunderI nm) = some none) (h2 : PySem.W.findIn K (.type "object") (dunderI nm) = some none) :
    PySem.W.Looks M h (fillsInplaceSlot (.ref C) nm add) false := by
  intro A Q E s k q
  have Lm : PySem.W.Looks M h (mroOf (.ref C)) cd.mro := (PySem.W.looks_clsIn X hcd).andThen (f := fun cd => pure cd.mro) .now
  have Lm' := Lm.keeps k
  obtain ⟨hh, g, d, tt, os⟩ := s
  have X' : K.In hh := X.keeps k
  have L1 : PySem.W.Looks M hh (typeLookup (.ref C) (dunderI nm)) none := PySem.W.looks_findIn X' h1
  have L2 : PySem.W.Looks M hh (typeLookup (.type "object") (dunderI nm)) none := PySem.W.looks_findIn X' h2
  unfold fillsInplaceSlot
  refine wpAny_bind (Lm'.at ?_)
  rw [hm, List.anyM_cons]
  refine wpAny_bind ?_
  refine wpAny_bind (L1.here ?_)
  refine wpAny_pure ?_
  simp only [Bool.false_eq_true, if_false]
  rw [List.anyM_cons]
  refine wpAny_bind ?_
  refine wpAny_bind (L2.here ?_)
  refine wpAny_pure ?_
  simp only [Bool.false_eq_true, if_false]
  exact wpAny_pure q
end
section
variable {X : Cx} {C f : Addr} {fd : FuncData} {k : Nat} {sp : Sp} {y : Str}
/-- o op= o -/
theorem iop_own {op : Operator} (F : FnOk X.prog X.w X.K X.mg X.base CX0 k f fd ["self", y] sp) (hr : Room k X.A) (hb : L2.Binds X.K fd ["self", y] []) (m : Meth X.K C (PySem.dunder op.info.2) f) (hc : PySem.W.selfFirst X.K C = true)
    (hm : ∃ cd, PySem.W.clsIn X.K C = some cd ∧ cd.mro = [.ref C, .type "object"]) (h1 : PySem.W.findIn X.K (.ref C) (dunderI op.info.2) = some none) (h2 : PySem.W.findIn X.K (.type "object") (dunderI op.info.2) = some none) :
    OpR X (inplaceOp op) (fun x z H Q => ∃ a dx fs b dy gs, x = .ref a ∧ z = .ref b ∧ H a = some (.ins C dx fs) ∧ H b = some (.ins C dy gs) ∧ sp [.ref a, .ref b] H (refQ Q) E0) := by
  intro pins s σ H x z v u Q I rx rz h
  obtain ⟨a, dx, fs, b, dy, gs, rfl, rfl, ha, hb', h⟩ := h
  cases rx
  cases rz
  obtain ⟨mA, O, _⟩ := ins_get I.hok ha
  obtain ⟨od, J, _⟩ := O.look
  obtain ⟨mA', O', _⟩ := ins_get I.hok hb'
  obtain ⟨od', J', _⟩ := O'.look
  obtain ⟨mm, FF⟩ := I.fr
  obtain ⟨cd, hcd, hmm⟩ := hm
  refine aug_K I.kIn J J'.type hc m.at_ m.fn (no_fills I.kIn hcd hmm h1 h2) ?_
  refine thn (run_fn (vs := [.ref a, .ref b]) (us := [.ref a, .ref b]) F hr hb .nil pass0 I (.cons rfl (.cons rfl .nil)) (by simpa using h)) fun r s' hq => ?_
  obtain ⟨w, H', I', rw', p, rfl, q⟩ := hq
  cases rw'
  exact ⟨.ref p, H', I', rfl, q⟩
end
end L3
/-! Own error classes: __init__ with super().__init__('..') and fields. -/
namespace L3
open PySem PySem.Spec PyProof.Rows L2
/-- an error object: its class, the tuple of its args, its dict -/
abbrev erO (C t : Addr) (d : Option Addr) : Obj := { cls := .ref C, dict := d, data := .fields #[.ref t, .none, .none, .none, .bool false, .none] }
section
open Builtin Builtin.ObjectAttr
variable {prog : Program} {w : World} {A : Around} {R : Result → Shared → Prop} {hp : Heap} {g : Array GenState} {d : Drawn} {t : Nat} {os : OsState} {K : PySem.W.Frag} {name : Str} {tk : Tok} {v : Value} {x C : Addr} {fv : Array Value} {cd : ClassData}
/-- what the class's line lets: no class in it takes the store for itself -/
structure Lets0 (cd : ClassData) : Prop where
  pass : ∀ self : Value, refuseLoop self "__setattr__" cd.mro = pure ()
  obj : cd.mro.contains (.type "object") = true
  ne : cd.mro.isEmpty = false
  dct : cd.hasDict = true
/-- the first field -/
theorem er_new (X : K.In hp) (hx : hp.get? x = some { cls := .ref C, data := .fields fv }) (hcd : PySem.W.clsIn K C = some cd) (L : Lets0 cd) (ha : PySem.W.findIn K (.ref C) name = some none)
    (hq : ∀ h' tk' dx, (∀ b o, b ≠ x → hp.get? b = some o → h'.get? b = some o) → hp.objs.size ≤ dx → dx ≠ x → h'.get? x = some { cls := .ref C, dict := some dx, data := .fields fv } →
      h'.Ns1 dx (fun y => if y = name then some v else none) → R (.ok (.ret .none)) ⟨h', g, d, tk', os⟩) :
    codeAny (model prog w) A (.call (.builtin "object.__setattr__") ⟨[.ref x, .str name tk, v], []⟩) R ⟨hp, g, d, t, os⟩ := by
  have In0 : PySem.W.InstAt hp x { cls := .ref C, data := .fields fv } C none := ⟨hx, rfl, rfl, trivial⟩
  have StF := F.store_object
  have nxs : x ≠ hp.objs.size := Nat.ne_of_lt (Heap.lt_size hx)
  have isO : PySem.W.Looks (model prog w) hp (isInstance (.ref x) (.type "object")) true := In0.type.andThen (PySem.W.looks_mroIn X (by unfold PySem.W.mroIn; rw [hcd, Option.bind_some, if_neg (by rw [L.ne]; decide), L.obj]))
  refine codeAny_call_builtin StF.slot.plain StF.entry (@PySem.W.check_slot (model prog w) _ _ ⟨hp, g, d, t, os⟩ "object.__setattr__" "object" "__setattr__" (.ref x) [.str name tk, v] [] _ StF.kind StF.split isO (StF.args (.ref x) (.str name tk) v) ?_)
  have lmro : PySem.W.Looks (model prog w) hp (mroOf (.ref C)) cd.mro := (PySem.W.looks_clsIn X hcd).andThen .now
  have lst : PySem.W.Looks (model prog w) hp (storeTaker? none) none := .now
  have lcls : PySem.W.Looks (model prog w) hp (classData C) cd := PySem.W.looks_clsIn X hcd
  rw [PySem.W.osa_eq, refuse_eq]
  refine wpAny_bind (wpAny_bind (In0.type.at (wpAny_bind (lmro.at ?_))))
  rw [L.pass]
  refine wpAny_pure (wpAny_bind (In0.type.at (wpAny_bind ((PySem.W.looks_findIn X ha).at (wpAny_bind (lst.at ?_))))))
  show wpAny _ _ (storeInOwnDict (.ref x) (.ref C) (.str name tk) name v false) _ _ _
  have hdc := L.dct
  clear L
  obtain ⟨nm, bs, mro, ns, qn, hd, sn, sb, ab, col, del⟩ := cd
  dsimp only at hdc
  subst hdc
  unfold storeInOwnDict ownDictForStores
  repeat (first | with_reducible refine PySem.HandSPX.store_in_new ?_ ?_ | with_reducible refine wpAny_loadPart_at hx ?_ | with_reducible refine lcls.at ?_ | wp_step)
  · exact ⟨_, #[], _, (Heap.get?_update_ne _ _ _ _ nxs.symm).trans (Heap.get?_push_at rfl rfl), rfl, fun e he => absurd he (by simp), fun _ => rfl⟩
  · intro h' tk' hn' hs
    have hx1 : (hp.push { cls := .type "dict", data := .dict #[] }).get? x = some { cls := .ref C, data := .fields fv } := Heap.get?_push_of_some _ hx
    refine hq h' tk' hp.objs.size (fun b o hb ho => ?_) (Nat.le_refl _) nxs.symm ?_ hn'
    · exact (hs.2 b (Nat.ne_of_lt (Heap.lt_size ho))).trans ((Heap.get?_update_ne _ _ _ _ hb).trans (Heap.get?_push_of_some _ ho))
    · exact (hs.2 x nxs).trans (Heap.get?_update_self _ hx1 rfl)
/-- a further field -/
theorem er_old {dx : Addr} {m0 : Str → Option Value} {nl : List Str} (X : K.In hp) (hx : hp.get? x = some { cls := .ref C, dict := some dx, data := .fields fv }) (hns : hp.Ns1 dx m0) (hw : Within m0 nl) (hz : nl.length ≤ 1000)
    (hcd : PySem.W.clsIn K C = some cd) (L : Lets0 cd) (ha : PySem.W.findIn K (.ref C) name = some none)
    (hq : ∀ h' tk', (∀ b o, b ≠ dx → hp.get? b = some o → h'.get? b = some o) → h'.Ns1 dx (fun y => if y = name then some v else m0 y) → R (.ok (.ret .none)) ⟨h', g, d, tk', os⟩) :
    codeAny (model prog w) A (.call (.builtin "object.__setattr__") ⟨[.ref x, .str name tk, v], []⟩) R ⟨hp, g, d, t, os⟩ := by
  obtain ⟨oD, esD, epD, hoD, hdD, _⟩ := hns.count hw
  have In0 : PySem.W.InstAt hp x { cls := .ref C, dict := some dx, data := .fields fv } C (some oD) := ⟨hx, rfl, rfl, hoD⟩
  have StF := F.store_object
  have isO : PySem.W.Looks (model prog w) hp (isInstance (.ref x) (.type "object")) true := In0.type.andThen (PySem.W.looks_mroIn X (by unfold PySem.W.mroIn; rw [hcd, Option.bind_some, if_neg (by rw [L.ne]; decide), L.obj]))
  refine codeAny_call_builtin StF.slot.plain StF.entry (@PySem.W.check_slot (model prog w) _ _ ⟨hp, g, d, t, os⟩ "object.__setattr__" "object" "__setattr__" (.ref x) [.str name tk, v] [] _ StF.kind StF.split isO (StF.args (.ref x) (.str name tk) v) ?_)
  have lmro : PySem.W.Looks (model prog w) hp (mroOf (.ref C)) cd.mro := (PySem.W.looks_clsIn X hcd).andThen .now
  have lst : PySem.W.Looks (model prog w) hp (storeTaker? none) none := .now
  have lcls : PySem.W.Looks (model prog w) hp (classData C) cd := PySem.W.looks_clsIn X hcd
  rw [PySem.W.osa_eq, refuse_eq]
  refine wpAny_bind (wpAny_bind (In0.type.at (wpAny_bind (lmro.at ?_))))
  rw [L.pass]
  refine wpAny_pure (wpAny_bind (In0.type.at (wpAny_bind ((PySem.W.looks_findIn X ha).at (wpAny_bind (lst.at ?_))))))
  show wpAny _ _ (storeInOwnDict (.ref x) (.ref C) (.str name tk) name v false) _ _ _
  have hdc := L.dct
  clear L
  obtain ⟨nm, bs, mro, ns, qn, hd, sn, sb, ab, col, del⟩ := cd
  dsimp only at hdc
  subst hdc
  unfold storeInOwnDict ownDictForStores
  repeat (first | with_reducible refine PySem.OEX.store_in_old hns hw hz ?_ | with_reducible refine wpAny_loadPart_at hx ?_ | with_reducible refine lcls.at ?_ | wp_step)
  intro h' tk' hn' hs
  exact hq h' tk' (fun b o hb ho => (hs.2 b hb).trans ho) hn'
end
end L3
/-! Own error classes: a run of __init__. -/
namespace L3
open PySem PySem.Spec PyProof.Rows L2 Builtin Builtin.ObjectAttr
/-- what the written part says of an error class: its own __init__ says super().__init__('..') -/
structure ErrF (P : Program) (K : PySem.W.Frag) (mg : Str → Option Value) (C fI : Addr) (B newId initId : String) (bmB : List Value) (ps : List Str) (params : Arguments) (body : List Stmt) (scope : Scope) : Prop where
  bf : ExcBaseFacts B newId initId bmB
  obj : bmB.contains (.type "object") = true
  sf : PySem.W.KxsFacts B initId
  cls : ∃ nm q N bs bm sn sub ab col dd k0 k1 k2 k3 k5, K.lookup C = some (excClassObj nm q C N bs bm true sn sub ab col dd k0 k1 k2 k3 k5 newId) ∧ (∀ X : String, bm.contains (.type X) = bmB.contains (.type X)) ∧
    ∀ self : Value, refuseLoop self "__setattr__" (.ref C :: bm) = pure ()
  fn : ∃ qual dV kV doc pm an cda ct cc oc od osl vs file tf ccl cdd ccs cl cld csl, K.lookup fI = some ⟨oc, od, .func (PySem.W.ksFn "__init__" qual params body scope dV kV doc pm an (.ref cda) ct cc), osl⟩ ∧ PySem.W.codeIn K (.ref cda) qual = true ∧
    K.lookup cda = some ⟨ccl, cdd, .fields vs, ccs⟩ ∧ vs[2]? = some (.str file tf) ∧ ((P.main.file : Str) == file) = true ∧ K.lookup cc = some ⟨cl, cld, .cell (some (.ref C)), csl⟩ ∧
    ∀ s us, us.length = ps.length → BindsTo s (PySem.W.ksFn "__init__" qual params body scope dV kV doc pm an (.ref cda) ct cc) ⟨us, []⟩ (ps.zip us)
  sup : PySem.W.ks_superIn K C C "__init__" = some (some (.builtin initId))
  self : PySem.W.mroIn K C (.ref C) = some true
  subB : PySem.W.subIn K (.ref C) (.type B) = some true
  opq : PySem.W.nsIn K cStatics "thirdparty.any" = some none
  glb : mg "super" = none
  top : (P.main.scope.names.lookup ("super" : Str)).isSome = false
  sa : PySem.W.findIn K (.ref C) "__setattr__" = some (some (.builtin "object.__setattr__"))
  ini : PySem.W.findIn K (.ref C) "__init__" = some (some (.ref fI))
  tI : PySem.W.typeIn K (.ref fI) = some (.type "function")
  kC : PySem.W.keepIn K (.ref C) = true
  exC : PySem.W.subIn K (.ref C) (.type "BaseException") = some true
  tyC : PySem.W.typeIn K (.ref C) = some (.type "type")
/-- the scope of such an __init__ -/
structure ErrS (ps : List Str) (params : Arguments) (scope : Scope) : Prop where
  sup : scope.names.lookup ("super" : Str) = some .globalImplicit
  cls : scope.names.lookup ("__class__" : Str) = some .free
  loc : ∀ x ∈ ps, scope.names.lookup x = some .local
  fst : ∃ ar : Arg, (params.posonlyargs ++ params.args).head? = some ar ∧ ar.arg = "self"
  hd : ps.head? = some "self"
  nd : ps.Nodup
  knd : scope.kind = .function
  cell : ∀ x ∈ scope.names, x.2 ≠ .cell
  co : scope.isCoroutine = false
  gn : scope.isGenerator = false
/-- the first row: super().__init__('..') -/
abbrev supE (txt : Str) (kk : Nat) (p0 p1 p2 p3 p4 : Pos) : Expr := .Call (.Attribute (.Call (.Name "super" p0) [] [] p1) "__init__" p2) [.Constant (.str txt) kk p3] [] p4
/-- it is read as a call of a method -/
def SupOk (scope : Scope) (txt : Str) (kk : Nat) (p0 p1 p2 p3 p4 : Pos) : Prop := ∀ (qual : Str) (L f : Addr) (cd : Value) (cc : Addr), ∃ pl : Sem Bool, eval (supE txt kk p0 p1 p2 p3 p4) (PySem.W.ksEnv qual scope L f cd cc) = (do
      let ov ← attributeBase (.Call (.Name "super" p0) [] [] p1) "__init__" (PySem.W.ksEnv qual scope L f cd cc) (eval (.Call (.Name "super" p0) [] [] p1) (PySem.W.ksEnv qual scope L f cd cc))
      standAt p2.atName
      let (f', first) ← holding [ov] (getMethod ov "__init__" pl)
      callWith p4 f' first (backTo p4 (starEach [.Constant (.str txt) kk p3] (PySem.W.ksEnv qual scope L f cd cc))) [])
/-- what stands around a run -/
structure ErrW (K : PySem.W.Frag) (mg : Str → Option Value) (h : Heap) : Prop where
  kin : K.In h
  glob : h.Ns mainGlobals mg
  blt : ∃ mb, h.Ns builtinsNs mb ∧ mb "super" = some (.type "super")
section
variable {P : Program} {w : World} {A : Around} {E : Value → Shared → Prop} {K : PySem.W.Frag} {mg : Str → Option Value} {C fI : Addr} {B newId initId : String} {bmB : List Value} {ps : List Str} {params : Arguments} {body : List Stmt} {scope : Scope}
theorem ErrW.keeps {h h' : Heap} (W : ErrW K mg h) (k : ∀ b o, h.get? b = some o → h'.get? b = some o) : ErrW K mg h' := by
  obtain ⟨mb, h1, h2⟩ := W.blt
  exact ⟨W.kin.keeps k, W.glob.keeps k, mb, h1.keeps k, h2⟩
theorem ErrW.but {h h' : Heap} {e : Addr} (W : ErrW K mg h) (he : K.lookup e = none) (h1 : e ≠ mainGlobals) (h2 : e ≠ builtinsNs) (k : ∀ b o, b ≠ e → h.get? b = some o → h'.get? b = some o) : ErrW K mg h' := by
  obtain ⟨mb, z1, z2⟩ := W.blt
  refine ⟨fun b o q => k b o (fun z => by rw [z, he] at q; cases q) (W.kin b o q), W.glob.at fun o q => k _ o h1.symm q, mb, z1.at fun o q => k _ o h2.symm q, z2⟩
theorem errObj {h : Heap} {e t : Addr} {d : Option Addr} (he : h.get? e = some (erO C t d)) {od : Option Obj} (hd : match d, od with | none, none => True | some dx, some o => h.get? dx = some o | _, _ => False) : PySem.W.InstAt h e (erO C t d) C od := by
  cases d <;> cases od <;> first | exact hd.elim | exact ⟨he, rfl, rfl, hd⟩
/-- super().__init__('..') -/
theorem sup_stmt {qual : Str} {dV kV doc pm ct oc ccl cl : Value} {an od cdd cld : Option Addr} {cda cc L e t0 : Addr} {osl ccs csl : Array (Option Value)} {vs : Array Value} {file : Str} {tf : Tok} {m : Str → Option Value} {s : Shared} {body0 : List Stmt} {p0 p1 p2 p3 p4 p5 : Pos} {kk : Nat} {txt : Str} {Q : Flow → Shared → Prop}
    (T : ErrF P K mg C fI B newId initId bmB ps params body scope) (S : ErrS ps params scope) (W : ErrW K mg s.heap) (hev : SupOk scope txt kk p0 p1 p2 p3 p4)
    (hf : K.lookup fI = some ⟨oc, od, .func (PySem.W.ksFn "__init__" qual params body scope dV kV doc pm an (.ref cda) ct cc), osl⟩) (hc : K.lookup cda = some ⟨ccl, cdd, .fields vs, ccs⟩) (hv : vs[2]? = some (.str file tf)) (hfl : ((P.main.file : Str) == file) = true)
    (hcc : K.lookup cc = some ⟨cl, cld, .cell (some (.ref C)), csl⟩) (hn : s.heap.Ns L m) (hs : m "self" = some (.ref e)) (he : s.heap.get? e = some (erO C t0 none))
    (h : ∀ h' tk t', (∀ b o, b ≠ e → s.heap.get? b = some o → h'.get? b = some o) → h'.get? e = some (erO C t' none) → Q .next { s with heap := h', toks := tk }) :
    PySem.wpAt (model P w) A (.func body0 (PySem.W.ksEnv qual scope L fI (.ref cda) cc)) (exec (.Expr (supE txt kk p0 p1 p2 p3 p4) p5) (PySem.W.ksEnv qual scope L fI (.ref cda) cc)) Q E s := by
  obtain ⟨ar, ha1, ha2⟩ := S.fst
  obtain ⟨mb, hb1, hb2⟩ := W.blt
  obtain ⟨nm, q, N, bs, bm, sn, sub, ab, col, dd, k0, k1, k2, k3, k5, hC, hT, _⟩ := T.cls
  have X := W.kin
  obtain ⟨hh, g, d, t, os⟩ := s
  have hcl : PySem.W.clsIn K C = some { name := nm, bases := bs, mro := .ref C :: bm, ns := N, qualname := q, hasDict := true, slotNames := sn, subclasses := sub, abstract := ab, collection := col, hasDel := false } := by unfold PySem.W.clsIn; rw [hC] <;> rfl
  have hself : scope.names.lookup ar.arg = some .local := by
    rw [ha2]
    exact S.loc "self" (List.mem_of_head? S.hd)
  have hCh := X _ _ hC
  obtain ⟨pl, hev'⟩ := hev qual L fI (.ref cda) cc
  have hint : interactive (PySem.W.ksEnv qual scope L fI (.ref cda) cc) = false := by
    show (scope.kind == .module && _) = false
    rw [S.knd]; rfl
  refine ks_wpAt_Expr_any (ks_wpAt_MethodCall (ks_wpAt_super_base (env := PySem.W.ksEnv qual scope L fI (.ref cda) cc) S.sup S.cls rfl rfl (X _ _ hf) rfl ha1 rfl (X _ _ hc) rfl hv hfl T.top ?_) hev') hint
  refine PySem.W.ks_loadName_global S.knd S.sup (Calls.loadGlobal_builtin (env := PySem.W.ksEnv qual scope L fI (.ref cda) cc) W.glob T.glb hb1 hb2 ⟨rfl, ?_⟩)
  refine wpAny_loadName_free S.knd S.cls rfl ⟨_, X _ _ hcc, rfl⟩ ?_
  refine wpAny_loadName_local S.knd hself hn (by rw [ha2]; exact hs) ?_
  refine ks_wpAny_isType_cls hCh rfl ⟨rfl, ?_⟩
  refine ks_wpAny_call_super hCh rfl he rfl (fun c z => by cases z) (PySem.W.looks_mroIn X T.self) (fun h1 e1 k1' => ?_)
  have X1 : K.In h1 := X.keeps k1'
  have he1 := k1' _ _ he
  have I1 : PySem.W.InstAt h1 e (erO C t0 none) C none := ⟨he1, rfl, rfl, trivial⟩
  have hsup := T.sup
  unfold PySem.W.ks_superIn at hsup
  rw [hcl] at hsup
  refine PySem.W.kxs_getMethod T.sf e1 (PySem.W.looks_opaque X1 T.opq) (l₀ := .ref C :: bm) (fun A Q E s k q => wpAny_bind ((PySem.W.looks_clsIn X1 hcl) A _ E s k (wpAny_pure q))) rfl X1 hsup (I1.type.andThen (PySem.W.looks_subIn X1 T.subB)) (PySem.W.ks_ne X1 I1 hcl) rfl ?_
  refine PySem.W.kxs_callWith (i := initId) (x := e) rfl ?_
  refine Calls.evalArgs_plain (Calls.spliced_cons (wpAny_Constant_str (k := kk) (pos := p3) (Calls.spliced_nil ?_)))
  have hw2 : (h1.push (PySem.W.kxs_mw initId e)).get? h1.objs.size = some (PySem.W.kxs_mw initId e) := Heap.get?_push_at rfl rfl
  have k2' : ∀ b o, h1.get? b = some o → (h1.push (PySem.W.kxs_mw initId e)).get? b = some o := fun b o z => Heap.get?_push_of_some _ z
  refine ⟨hw2, ?_⟩
  refine wpAny_call (codeAny_of_tree ?_)
  show wpAny _ A.in1 (callAny (.ref h1.objs.size) ⟨[.str txt _], []⟩) _ _ _
  simp only [callAny]
  refine wpAny_bind (wpAny_load hw2 ?_)
  simp only [PySem.W.kxs_mw, show (Value.type "method-wrapper" == Value.type "method" || Value.type "method-wrapper" == Value.type "builtin_function_or_method" || Value.type "method-wrapper" == Value.type "method-wrapper") = true by decide, if_true]
  refine PySem.W.KFB.if_so (by decide) ?_
  refine wpAny_bind (PySem.W.check_bound_init T.bf.toExcCallFacts (k2' _ _ (k1' _ _ hCh)) (k2' _ _ he1) rfl ?_)
  refine wpAny_bind (wpAny_pure (wpAny_pure ?_))
  refine ⟨plainId_quiet T.bf.init.plain _, codeAny_builtin T.bf.initEntry ?_⟩
  refine PySem.W.exc_init_tree (cls := .ref C) (t0 := t0) (dv := none) (c2 := .none) (c3 := .none) (b4 := .bool false) (k2' _ _ he1) (by rw [sizeLine_eq]; show 1 ≤ _; decide) (fun h3 k3' e3 _ => ?_)
  exact h h3 _ _ (fun b o hb z => k3' b o hb (k2' _ _ (k1' _ _ z))) e3
/-- self.f = x, the first one -/
theorem sto_new {qual : Str} {cda : Value} {cc L e t0 : Addr} {m : Str → Option Value} {s : Shared} {body0 : List Stmt} {p1 p2 p3 p4 : Pos} {f x : Str} {v : Value} {Q : Flow → Shared → Prop}
    (T : ErrF P K mg C fI B newId initId bmB ps params body scope) (S : ErrS ps params scope) (X : K.In s.heap) (hn : s.heap.Ns L m) (hs : m "self" = some (.ref e)) (hx : m x = some v) (hself : scope.names.lookup ("self" : Str) = some .local) (hxl : scope.names.lookup x = some .local) (hdb : (x == ("__debug__" : Str)) = false) (hfn : PySem.W.findIn K (.ref C) f = some none)
    (he : s.heap.get? e = some (erO C t0 none)) (hsw : swapsWith (.Name x p3) (some (.Attribute (.Name "self" p1) f p2)) p4.line (PySem.W.ksEnv qual scope L fI cda cc) = pure false)
    (h : ∀ h' tk dx, (∀ b o, b ≠ e → s.heap.get? b = some o → h'.get? b = some o) → s.heap.objs.size ≤ dx → dx ≠ e → h'.get? e = some (erO C t0 (some dx)) → h'.Ns1 dx (fun y => if y = f then some v else none) → Q .next { s with heap := h', toks := tk }) :
    PySem.wpAt (model P w) A (.func body0 (PySem.W.ksEnv qual scope L fI cda cc)) (exec (.Assign [.Attribute (.Name "self" p1) f p2] (.Name x p3) p4) (PySem.W.ksEnv qual scope L fI cda cc)) Q E s := by
  obtain ⟨nm, q, N, bs, bm, sn, sub, ab, col, dd, k0, k1, k2, k3, k5, hC, hT, hp⟩ := T.cls
  have hcl : PySem.W.clsIn K C = some { name := nm, bases := bs, mro := .ref C :: bm, ns := N, qualname := q, hasDict := true, slotNames := sn, subclasses := sub, abstract := ab, collection := col, hasDel := false } := by unfold PySem.W.clsIn; rw [hC] <;> rfl
  have hob : (Value.ref C :: bm).contains (.type "object") = true := by
    rw [List.contains_cons, hT, T.obj, Bool.or_true]
  refine ks_wpAt_Assign_Attr (wpAt_of_wpAny (wpAny_Name (wpAny_loadName_local S.knd hxl hn hx (wpAny_Name (wpAny_loadName_local S.knd hself hn hs ?_))) hdb)) hsw
  obtain ⟨hh, g, d, t, os⟩ := s
  refine PySem.W.set_plain X (ox := erO C t0 none) (od := none) ⟨he, rfl, rfl, trivial⟩ T.sa ?_
  exact er_new X he hcl ⟨hp, hob, rfl, rfl⟩ hfn fun h' tk' dx k dn dne hx' hn' => h h' tk' dx k dn dne hx' hn'
/-- self.f = x, a further one -/
theorem sto_old {qual : Str} {cda : Value} {cc L e t0 dx : Addr} {m m0 : Str → Option Value} {s : Shared} {body0 : List Stmt} {p1 p2 p3 p4 : Pos} {f x : Str} {v : Value} {nl : List Str} {Q : Flow → Shared → Prop}
    (T : ErrF P K mg C fI B newId initId bmB ps params body scope) (S : ErrS ps params scope) (X : K.In s.heap) (hn : s.heap.Ns L m) (hs : m "self" = some (.ref e)) (hx : m x = some v) (hself : scope.names.lookup ("self" : Str) = some .local) (hxl : scope.names.lookup x = some .local) (hdb : (x == ("__debug__" : Str)) = false) (hfn : PySem.W.findIn K (.ref C) f = some none)
    (he : s.heap.get? e = some (erO C t0 (some dx))) (hd : s.heap.Ns1 dx m0) (hw : Within m0 nl) (hz : nl.length ≤ 1000) (hsw : swapsWith (.Name x p3) (some (.Attribute (.Name "self" p1) f p2)) p4.line (PySem.W.ksEnv qual scope L fI cda cc) = pure false)
    (h : ∀ h' tk, (∀ b o, b ≠ dx → s.heap.get? b = some o → h'.get? b = some o) → h'.Ns1 dx (fun y => if y = f then some v else m0 y) → Q .next { s with heap := h', toks := tk }) :
    PySem.wpAt (model P w) A (.func body0 (PySem.W.ksEnv qual scope L fI cda cc)) (exec (.Assign [.Attribute (.Name "self" p1) f p2] (.Name x p3) p4) (PySem.W.ksEnv qual scope L fI cda cc)) Q E s := by
  obtain ⟨nm, q, N, bs, bm, sn, sub, ab, col, dd, k0, k1, k2, k3, k5, hC, hT, hp⟩ := T.cls
  have hcl : PySem.W.clsIn K C = some { name := nm, bases := bs, mro := .ref C :: bm, ns := N, qualname := q, hasDict := true, slotNames := sn, subclasses := sub, abstract := ab, collection := col, hasDel := false } := by unfold PySem.W.clsIn; rw [hC] <;> rfl
  have hob : (Value.ref C :: bm).contains (.type "object") = true := by
    rw [List.contains_cons, hT, T.obj, Bool.or_true]
  obtain ⟨oD, _, _, hoD, _, _⟩ := hd.count hw
  refine ks_wpAt_Assign_Attr (wpAt_of_wpAny (wpAny_Name (wpAny_loadName_local S.knd hxl hn hx (wpAny_Name (wpAny_loadName_local S.knd hself hn hs ?_))) hdb)) hsw
  obtain ⟨hh, g, d, t, os⟩ := s
  refine PySem.W.set_plain X (ox := erO C t0 (some dx)) (od := some oD) ⟨he, rfl, rfl, hoD⟩ T.sa ?_
  exact er_old X he hd hw hz hcl ⟨hp, hob, rfl, rfl⟩ hfn fun h' tk' k hn' => h h' tk' k hn'
/-- the stores behind super().__init__('..') -/
structure Sto (scope : Scope) (x f : Str) (q1 q2 q3 q4 : Pos) : Prop where
  loc : scope.names.lookup x = some .local
  db : (x == ("__debug__" : Str)) = false
  sw : ∀ (qual : Str) (L f' : Addr) (cd : Value) (cc : Addr), swapsWith (.Name x q3) (some (.Attribute (.Name "self" q1) f q2)) q4.line (PySem.W.ksEnv qual scope L f' cd cc) = pure false
/-- what is known of e and of all else, behind -/
structure ErrEnd (C e : Addr) (m0 : Str → Option Value) (s s' : Shared) : Prop where
  keep : ∀ b o, b ≠ e → s.heap.get? b = some o → s'.heap.get? b = some o
  at_ : ∃ t dx, s'.heap.get? e = some (erO C t (some dx)) ∧ s'.heap.Ns1 dx m0 ∧ s.heap.objs.size ≤ dx ∧ dx ≠ e
  gens : s'.gens = s.gens
  os : s'.os = s.os
section
variable {R : Result → Shared → Prop} {s : Shared} {e t0 : Addr} {p0 p1 p2 p3 p4 p5 q1 q2 q3 q4 r1 r2 r3 r4 : Pos} {kk : Nat} {txt x f y f2 : Str} {v u : Value}
theorem err_init1 {body : List Stmt} (T : ErrF P K mg C fI B newId initId bmB ["self", x] params body scope) (S : ErrS ["self", x] params scope) (hev : SupOk scope txt kk p0 p1 p2 p3 p4) (D : Sto scope x f q1 q2 q3 q4) (hfn : PySem.W.findIn K (.ref C) f = some none)
    (hbody : body = [.Expr (supE txt kk p0 p1 p2 p3 p4) p5, .Assign [.Attribute (.Name "self" q1) f q2] (.Name x q3) q4]) (hroom : A.depth < recursionLimit) (W : ErrW K mg s.heap) (hlim : s.heap.NoLimit) (n0 : K.lookup e = none) (n1 : e ≠ mainGlobals) (n2 : e ≠ builtinsNs)
    (he : s.heap.get? e = some (erO C t0 none)) (h : ∀ s', ErrEnd C e (fun z => if z = f then some v else none) s s' → R (.ok (.ret .none)) s') : codeAny (model P w) A (.call (.ref fI) ⟨[.ref e, v], []⟩) R s := by
  subst hbody
  obtain ⟨qual, dV, kV, doc, pm, an, cda, ct, cc, oc, od, osl, vs, file, tf, ccl, cdd, ccs, cl, cld, csl, hf, hcd, hc, hv, hfl, hcc, hbd⟩ := T.fn
  have hb := hbd s [.ref e, v] rfl
  have hself := S.loc "self" (List.mem_of_head? S.hd)
  have hne : ("self" : Str) ≠ x := by
    have := S.nd
    rw [List.nodup_cons] at this
    exact fun z => this.1 (by rw [z]; exact List.mem_cons_self)
  refine ks_codeAny_call_defAt (fd := PySem.W.ksFn "__init__" qual params _ scope dV kV doc pm an (.ref cda) ct cc) (binds := [(("self" : Str), .ref e), (x, v)]) hroom (W.kin _ _ hf) rfl hlim (PySem.W.codeRec_of W.kin hcd) rfl hb S.cell (fun z hz => ?_) (fun h0 hns hk => ?_) S.co S.gn S.knd
  · rcases List.mem_cons.mp hz with rfl | hz
    · exact hself
    · rw [List.mem_singleton.mp hz]; exact D.loc
  have W0 := W.keeps hk
  have hL : s.heap.objs.size ≠ e := Nat.ne_of_gt (Heap.lt_size he)
  have m1 : ([(("self" : Str), Value.ref e), (x, v)].reverse.lookup ("self" : Str)) = some (.ref e) := by
    show List.lookup _ [(x, v), (("self" : Str), Value.ref e)] = _
    rw [List.lookup_cons, show (("self" : Str) == x) = false from beq_eq_false_iff_ne.mpr hne]
    simp
  have m2 : ([(("self" : Str), Value.ref e), (x, v)].reverse.lookup x) = some v := by
    show List.lookup _ [(x, v), (("self" : Str), Value.ref e)] = _
    rw [List.lookup_cons, beq_self_eq_true]
  refine ks_wpAt_execs_cons (sup_stmt (s := { s with heap := h0, toks := _ }) T S W0 hev hf hc hv hfl hcc hns m1 (hk _ _ he) fun h1 tk1 t1 k1 e1 => ?_)
  have W1 := W0.but n0 n1 n2 k1
  have hns1 := hns.at fun o z => k1 _ o hL z
  refine ks_wpAt_execs_cons (sto_new (s := { s with heap := h1, toks := tk1 }) T S W1.kin hns1 m1 m2 hself D.loc D.db hfn e1 (D.sw _ _ _ _ _) fun h2 tk2 dx k2 dn dne e2 hd => ?_)
  refine wpAt_of_wpAny (wpAny_execs_nil ?_)
  refine h _ ⟨fun b o hb z => k2 b o hb (k1 b o hb (hk b o z)), ⟨t1, dx, e2, hd, ?_, dne⟩, rfl, rfl⟩
  exact Nat.le_trans (Nat.le_of_lt hns1.lt) dn
theorem err_init2 {body : List Stmt} (T : ErrF P K mg C fI B newId initId bmB ["self", x, y] params body scope) (S : ErrS ["self", x, y] params scope) (hev : SupOk scope txt kk p0 p1 p2 p3 p4) (D : Sto scope x f q1 q2 q3 q4) (D2 : Sto scope y f2 r1 r2 r3 r4) (hfn : PySem.W.findIn K (.ref C) f = some none) (hfn2 : PySem.W.findIn K (.ref C) f2 = some none)
    (hbody : body = [.Expr (supE txt kk p0 p1 p2 p3 p4) p5, .Assign [.Attribute (.Name "self" q1) f q2] (.Name x q3) q4, .Assign [.Attribute (.Name "self" r1) f2 r2] (.Name y r3) r4]) (hroom : A.depth < recursionLimit) (W : ErrW K mg s.heap) (hlim : s.heap.NoLimit) (n0 : K.lookup e = none) (n1 : e ≠ mainGlobals) (n2 : e ≠ builtinsNs)
    (he : s.heap.get? e = some (erO C t0 none)) (h : ∀ s', ErrEnd C e (fun z => if z = f2 then some u else if z = f then some v else none) s s' → R (.ok (.ret .none)) s') : codeAny (model P w) A (.call (.ref fI) ⟨[.ref e, v, u], []⟩) R s := by
  subst hbody
  obtain ⟨qual, dV, kV, doc, pm, an, cda, ct, cc, oc, od, osl, vs, file, tf, ccl, cdd, ccs, cl, cld, csl, hf, hcd, hc, hv, hfl, hcc, hbd⟩ := T.fn
  have hb := hbd s [.ref e, v, u] rfl
  have hself := S.loc "self" (List.mem_of_head? S.hd)
  have hne : ("self" : Str) ≠ x := by
    have := S.nd
    rw [List.nodup_cons] at this
    exact fun z => this.1 (by rw [z]; exact List.mem_cons_self)
  have hne2 : ("self" : Str) ≠ y := by
    have := S.nd
    rw [List.nodup_cons] at this
    exact fun z => this.1 (by rw [z]; simp)
  have hne3 : x ≠ y := by
    have := S.nd
    rw [List.nodup_cons, List.nodup_cons] at this
    exact fun z => this.2.1 (by rw [z]; simp)
  refine ks_codeAny_call_defAt (fd := PySem.W.ksFn "__init__" qual params _ scope dV kV doc pm an (.ref cda) ct cc) (binds := [(("self" : Str), .ref e), (x, v), (y, u)]) hroom (W.kin _ _ hf) rfl hlim (PySem.W.codeRec_of W.kin hcd) rfl hb S.cell (fun z hz => ?_) (fun h0 hns hk => ?_) S.co S.gn S.knd
  · rcases List.mem_cons.mp hz with rfl | hz
    · exact hself
    · rcases List.mem_cons.mp hz with rfl | hz
      · exact D.loc
      · rw [List.mem_singleton.mp hz]; exact D2.loc
  have W0 := W.keeps hk
  have hL : s.heap.objs.size ≠ e := Nat.ne_of_gt (Heap.lt_size he)
  have m1 : ([(("self" : Str), Value.ref e), (x, v), (y, u)].reverse.lookup ("self" : Str)) = some (.ref e) := by
    show List.lookup _ [(y, u), (x, v), (("self" : Str), Value.ref e)] = _
    rw [List.lookup_cons, show (("self" : Str) == y) = false from beq_eq_false_iff_ne.mpr hne2]
    dsimp only
    rw [List.lookup_cons, show (("self" : Str) == x) = false from beq_eq_false_iff_ne.mpr hne]
    simp
  have m2 : ([(("self" : Str), Value.ref e), (x, v), (y, u)].reverse.lookup x) = some v := by
    show List.lookup _ [(y, u), (x, v), (("self" : Str), Value.ref e)] = _
    rw [List.lookup_cons, show (x == y) = false from beq_eq_false_iff_ne.mpr hne3]
    dsimp only
    rw [List.lookup_cons, beq_self_eq_true]
  have m3 : ([(("self" : Str), Value.ref e), (x, v), (y, u)].reverse.lookup y) = some u := by
    show List.lookup _ [(y, u), (x, v), (("self" : Str), Value.ref e)] = _
    rw [List.lookup_cons, beq_self_eq_true]
  refine ks_wpAt_execs_cons (sup_stmt (s := { s with heap := h0, toks := _ }) T S W0 hev hf hc hv hfl hcc hns m1 (hk _ _ he) fun h1 tk1 t1 k1 e1 => ?_)
  have W1 := W0.but n0 n1 n2 k1
  have hns1 := hns.at fun o z => k1 _ o hL z
  refine ks_wpAt_execs_cons (sto_new (s := { s with heap := h1, toks := tk1 }) T S W1.kin hns1 m1 m2 hself D.loc D.db hfn e1 (D.sw _ _ _ _ _) fun h2 tk2 dx k2 dn dne e2 hd => ?_)
  have W2 := W1.but n0 n1 n2 k2
  have hns2 := hns1.at fun o z => k2 _ o hL z
  have wi : Within (fun z => if z = f then some v else none) [f] := Within.cons f v Within.nil
  refine ks_wpAt_execs_cons (sto_old (s := { s with heap := h2, toks := tk2 }) T S W2.kin hns2 m1 m3 hself D2.loc D2.db hfn2 e2 hd wi (by show 1 ≤ 1000; decide) (D2.sw _ _ _ _ _) fun h3 tk3 k3 hd3 => ?_)
  refine wpAt_of_wpAny (wpAny_execs_nil ?_)
  have hle := Nat.le_trans (Nat.le_of_lt hns1.lt) dn
  refine h _ ⟨fun b o hb z => k3 b o (fun z2 => absurd (z2 ▸ Heap.lt_size z) (Nat.not_lt.mpr hle)) (k2 b o hb (k1 b o hb (hk b o z))), ⟨t1, dx, k3 _ _ dne.symm e2, hd3, hle, dne⟩, rfl, rfl⟩
theorem err_init0 {body : List Stmt} (T : ErrF P K mg C fI B newId initId bmB ["self"] params body scope) (S : ErrS ["self"] params scope) (hev : SupOk scope txt kk p0 p1 p2 p3 p4)
    (hbody : body = [.Expr (supE txt kk p0 p1 p2 p3 p4) p5]) (hroom : A.depth < recursionLimit) (W : ErrW K mg s.heap) (hlim : s.heap.NoLimit) (n0 : K.lookup e = none) (n1 : e ≠ mainGlobals) (n2 : e ≠ builtinsNs)
    (he : s.heap.get? e = some (erO C t0 none)) (h : ∀ s' t', (∀ b o, b ≠ e → s.heap.get? b = some o → s'.heap.get? b = some o) → s'.heap.get? e = some (erO C t' none) → s'.gens = s.gens → s'.os = s.os → R (.ok (.ret .none)) s') : codeAny (model P w) A (.call (.ref fI) ⟨[.ref e], []⟩) R s := by
  subst hbody
  obtain ⟨qual, dV, kV, doc, pm, an, cda, ct, cc, oc, od, osl, vs, file, tf, ccl, cdd, ccs, cl, cld, csl, hf, hcd, hc, hv, hfl, hcc, hbd⟩ := T.fn
  have hb := hbd s [.ref e] rfl
  have hself := S.loc "self" (List.mem_of_head? S.hd)
  refine ks_codeAny_call_defAt (fd := PySem.W.ksFn "__init__" qual params _ scope dV kV doc pm an (.ref cda) ct cc) (binds := [(("self" : Str), .ref e)]) hroom (W.kin _ _ hf) rfl hlim (PySem.W.codeRec_of W.kin hcd) rfl hb S.cell (fun z hz => ?_) (fun h0 hns hk => ?_) S.co S.gn S.knd
  · rw [List.mem_singleton.mp hz]; exact hself
  have W0 := W.keeps hk
  have hL : s.heap.objs.size ≠ e := Nat.ne_of_gt (Heap.lt_size he)
  have m1 : ([(("self" : Str), Value.ref e)].reverse.lookup ("self" : Str)) = some (.ref e) := by
    show List.lookup _ [(("self" : Str), Value.ref e)] = _
    rw [List.lookup_cons, beq_self_eq_true]
  refine ks_wpAt_execs_cons (sup_stmt (s := { s with heap := h0, toks := _ }) T S W0 hev hf hc hv hfl hcc hns m1 (hk _ _ he) fun h1 tk1 t1 k1 e1 => ?_)
  refine wpAt_of_wpAny (wpAny_execs_nil ?_)
  exact h _ t1 (fun b o hb z => k1 b o hb (hk b o z)) e1 rfl rfl
end
end
end L3
/-! raise C(..), C an own error class: rules. -/
namespace L3
open PySem PySem.Spec PyProof.Rows L2
section
variable {X : Cx} {pins : List (Addr × Obj)} {σ : L2.St} {H1 : Hp} {s1 s' : Shared} {a d : Addr} {fs : List (Str × V)} {mA : Str → Option Value}
/-- the error itself is let go, its dict is tracked -/
theorem err_inv (I1 : L2.Inv X pins σ H1 s1) (ha : s1.heap.objs.size ≤ a) (hd : s1.heap.objs.size ≤ d) (hda : d ≠ a) (k : ∀ b o, s1.heap.get? b = some o → s'.heap.get? b = some o) (hns : s'.heap.Ns1 d mA) (rel : ∀ f, RelO (fs.lookup f) (mA f)) :
    ∃ G, L2.Inv X pins σ (upd H1 d (.xd fs)) { s1 with heap := G, toks := s'.toks } ∧ (∀ b o, G.get? b = some o → s'.heap.get? b = some o) ∧ G.get? a = none ∧ (upd H1 d (.xd fs)) a = none := by
  obtain ⟨G, g1, g2⟩ := restrict s'.heap fun b => decide (b ≠ a)
  have gk : ∀ b, b ≠ a → G.get? b = s'.heap.get? b := fun b hb => g1 b (decide_eq_true hb)
  have ge : G.get? a = none := g2 a (by simp)
  have nha : ∀ {b : Addr} {o : Obj}, s1.heap.get? b = some o → b ≠ a := fun {b o} z => Nat.ne_of_lt (Nat.lt_of_lt_of_le (Heap.lt_size z) ha)
  have nhd : ∀ {b : Addr} {o : Obj}, s1.heap.get? b = some o → b ≠ d := fun {b o} z => Nat.ne_of_lt (Nat.lt_of_lt_of_le (Heap.lt_size z) hd)
  have nH : ∀ {b : Addr} {o : HO}, H1 b = some o → b ≠ d := fun {b o} z => Nat.ne_of_lt (Nat.lt_of_lt_of_le (I1.hok.lt z) hd)
  have nHa : ∀ {b : Addr} {o : HO}, H1 b = some o → b ≠ a := fun {b o} z => Nat.ne_of_lt (Nat.lt_of_lt_of_le (I1.hok.lt z) ha)
  have kG : ∀ b o, s1.heap.get? b = some o → G.get? b = some o := fun b o z => by rw [gk b (nha z)]; exact k b o z
  have U : L2.Un X.fs [] H1 (upd H1 d (.xd fs)) s1.heap G := {
    keep := fun b o z _ _ _ => kG b o z
    slot := fun b o z _ _ _ => ⟨o.slots, kG b o z⟩
    free := fun b o z n _ => by rw [upd_ne (nhd z)]; exact n
    there := fun b o z _ => ⟨o, kG b o z⟩
    tups := fun b xs z => by rw [upd_ne (nH z)]; exact z
    frzs := fun b o v z => by rw [upd_ne (nH z)]; exact z
    tbls := fun b ps z => ⟨#[], by rw [upd_ne (nH z), z]; simp⟩ }
  refine ⟨G, I1.un (t' := s'.toks) U fun b o z => ?_, fun b o z => ?_, ge, ?_⟩
  · by_cases hb : b = d
    · subst hb
      rw [upd_same] at z
      cases z
      exact ⟨mA, hns.at fun o y => (gk b hda).trans y, rel⟩
    · rw [upd_ne hb] at z
      exact (I1.hok b o z).stay (fun c v _ y => kG c v y) (fun c hc => by rw [upd_ne (nH hc)]; exact hc) (fun c xs hc => by rw [upd_ne (nH hc)]; exact hc)
  · by_cases hb : b = a
    · rw [hb, ge] at z; cases z
    · rw [← gk b hb]; exact z
  · rw [upd_ne hda.symm]
    exact I1.hok.fresh ha
end
/-- a row of an error class's text -/
structure ErrT (P : Program) (K : PySem.W.Frag) (mg : Str → Option Value) (C fI : Addr) (B newId initId : String) (bmB : List Value) (ps : List Str) (params : Arguments) (body : List Stmt) (scope : Scope) : Prop where
  f : ErrF P K mg C fI B newId initId bmB ps params body scope
  s : ErrS ps params scope
section
variable {X : Cx} {C fI : Addr} {B newId initId : String} {bmB : List Value} {params : Arguments} {body : List Stmt} {scope : Scope} {p0 p1 p2 p3 p4 p5 q1 q2 q3 q4 r1 r2 r3 r4 : Pos} {kk : Nat} {txt x y f f2 cn : Str} {pins : List (Addr × Obj)} {σ : L2.St} {H1 : Hp} {s1 : Shared}
theorem errW (I : L2.Inv X pins σ H1 s1) : ErrW X.K X.mg s1.heap := by
  obtain ⟨mb, h1, h2⟩ := I.mod.blt
  exact ⟨I.kIn, I.mod.glob.keeps I.bk, mb, h1.keeps I.bk, (h2 _ (by decide)).trans PyProof.Rows.Boot.«super»⟩
/-- C(x) is made -/
theorem err_make1 {u : Value} {R : Value → Shared → Prop} {E : Value → Shared → Prop} (T : ErrT X.prog X.K X.mg C fI B newId initId bmB ["self", x] params body scope) (hev : SupOk scope txt kk p0 p1 p2 p3 p4) (D : Sto scope x f q1 q2 q3 q4) (hfn : PySem.W.findIn X.K (.ref C) f = some none)
    (hbody : body = [.Expr (supE txt kk p0 p1 p2 p3 p4) p5, .Assign [.Attribute (.Name "self" q1) f q2] (.Name x q3) q4]) (hr : Room 1 X.A) (I : L2.Inv X pins σ H1 s1)
    (h : ∀ (a t d : Addr) (s' : Shared), s1.heap.objs.size ≤ a → s1.heap.objs.size ≤ d → d ≠ a → (∀ b o, s1.heap.get? b = some o → s'.heap.get? b = some o) → s'.heap.get? a = some (erO C t (some d)) → s'.heap.Ns1 d (fun z => if z = f then some u else none) → s'.gens = s1.gens → s'.os = s1.os → R (.ref a) s') :
    wpAny (model X.prog X.w) X.A (call (.ref C) [u]) R E s1 := by
  obtain ⟨nm, q, N, bs, bm, sn, sub, ab, col, dd, k0, k1, k2, k3, k5, hC, hT, hp⟩ := T.f.cls
  have hsz : s1.heap.objs.size ≤ s1.heap.objs.size + 1 := Nat.le_succ _
  have I0 := I
  obtain ⟨hp, g, dr, tk, os⟩ := s1
  have kk' : ∀ b o, hp.get? b = some o → ((hp.push (PySem.W.kdv_tup [u])).push (PySem.HandSPX.excO C hp.objs.size)).get? b = some o := fun b o e => Heap.get?_push_of_some _ (Heap.get?_push_of_some _ e)
  have hget : ((hp.push (PySem.W.kdv_tup [u])).push (PySem.HandSPX.excO C hp.objs.size)).get? (hp.objs.size + 1) = some (erO C hp.objs.size none) := by heap_get
  have W := (errW I).keeps kk'
  have new : ∀ {b : Addr} {o : Obj}, hp.get? b = some o → hp.objs.size + 1 ≠ b := fun {b o} z => Nat.ne_of_gt (Nat.lt_of_lt_of_le (Heap.lt_size z) hsz)
  obtain ⟨og, g1⟩ : ∃ o, hp.get? mainGlobals = some o := by
    obtain ⟨o, _, _, z, _⟩ := (errW I).glob
    exact ⟨o, z⟩
  obtain ⟨ob, g2⟩ : ∃ o, hp.get? builtinsNs = some o := by
    obtain ⟨mb, ⟨o, _, _, z, _⟩, _⟩ := (errW I).blt
    exact ⟨o, z⟩
  refine wpAny_call (PySem.HandSPX.call_own T.f.bf hT (I.kIn _ _ hC) (PySem.W.looks_findIn I.kIn T.f.ini) (fun self => PySem.W.bind_fn I.kIn self T.f.tI) (by rw [sizeLine_eq]; show 1 ≤ _; decide) ?_)
  refine err_init1 (s := ⟨_, g, dr, tk, os⟩) (t0 := hp.objs.size) T.f T.s hev D hfn hbody (hr.make C [u] []).depth W (I.nolimit.keeps kk') ?_ (new g1) (new g2) hget fun s' F => ?_
  · cases z : X.K.lookup (hp.objs.size + 1) with
    | none => rfl
    | some o => exact absurd rfl (new (I.kIn _ _ z))
  · obtain ⟨k, ⟨t, d, h1, h2, h3, h4⟩, hg, ho⟩ := F
    have hlt := Heap.lt_size hget
    exact ⟨rfl, h _ t d s' hsz (Nat.le_trans (Nat.le_of_lt (Nat.lt_of_succ_lt hlt)) h3) h4 (fun b o z => k b o (new z).symm (kk' b o z)) h1 h2 hg ho⟩
/-- C(x, y) is made -/
theorem err_make2 {u u2 : Value} {R : Value → Shared → Prop} {E : Value → Shared → Prop} (T : ErrT X.prog X.K X.mg C fI B newId initId bmB ["self", x, y] params body scope) (hev : SupOk scope txt kk p0 p1 p2 p3 p4) (D : Sto scope x f q1 q2 q3 q4) (D2 : Sto scope y f2 r1 r2 r3 r4) (hfn : PySem.W.findIn X.K (.ref C) f = some none) (hfn2 : PySem.W.findIn X.K (.ref C) f2 = some none)
    (hbody : body = [.Expr (supE txt kk p0 p1 p2 p3 p4) p5, .Assign [.Attribute (.Name "self" q1) f q2] (.Name x q3) q4, .Assign [.Attribute (.Name "self" r1) f2 r2] (.Name y r3) r4]) (hr : Room 1 X.A) (I : L2.Inv X pins σ H1 s1)
    (h : ∀ (a t d : Addr) (s' : Shared), s1.heap.objs.size ≤ a → s1.heap.objs.size ≤ d → d ≠ a → (∀ b o, s1.heap.get? b = some o → s'.heap.get? b = some o) → s'.heap.get? a = some (erO C t (some d)) → s'.heap.Ns1 d (fun z => if z = f2 then some u2 else if z = f then some u else none) → s'.gens = s1.gens → s'.os = s1.os → R (.ref a) s') :
    wpAny (model X.prog X.w) X.A (call (.ref C) [u, u2]) R E s1 := by
  obtain ⟨nm, q, N, bs, bm, sn, sub, ab, col, dd, k0, k1, k2, k3, k5, hC, hT, hp⟩ := T.f.cls
  have hsz : s1.heap.objs.size ≤ s1.heap.objs.size + 1 := Nat.le_succ _
  have I0 := I
  obtain ⟨hp, g, dr, tk, os⟩ := s1
  have kk' : ∀ b o, hp.get? b = some o → ((hp.push (PySem.W.kdv_tup [u, u2])).push (PySem.HandSPX.excO C hp.objs.size)).get? b = some o := fun b o e => Heap.get?_push_of_some _ (Heap.get?_push_of_some _ e)
  have hget : ((hp.push (PySem.W.kdv_tup [u, u2])).push (PySem.HandSPX.excO C hp.objs.size)).get? (hp.objs.size + 1) = some (erO C hp.objs.size none) := by heap_get
  have W := (errW I).keeps kk'
  have new : ∀ {b : Addr} {o : Obj}, hp.get? b = some o → hp.objs.size + 1 ≠ b := fun {b o} z => Nat.ne_of_gt (Nat.lt_of_lt_of_le (Heap.lt_size z) hsz)
  obtain ⟨og, g1⟩ : ∃ o, hp.get? mainGlobals = some o := by
    obtain ⟨o, _, _, z, _⟩ := (errW I).glob
    exact ⟨o, z⟩
  obtain ⟨ob, g2⟩ : ∃ o, hp.get? builtinsNs = some o := by
    obtain ⟨mb, ⟨o, _, _, z, _⟩, _⟩ := (errW I).blt
    exact ⟨o, z⟩
  refine wpAny_call (PySem.HandSPX.call_own T.f.bf hT (I.kIn _ _ hC) (PySem.W.looks_findIn I.kIn T.f.ini) (fun self => PySem.W.bind_fn I.kIn self T.f.tI) (by rw [sizeLine_eq]; show 2 ≤ _; decide) ?_)
  refine err_init2 (s := ⟨_, g, dr, tk, os⟩) (t0 := hp.objs.size) T.f T.s hev D D2 hfn hfn2 hbody (hr.make C [u, u2] []).depth W (I.nolimit.keeps kk') ?_ (new g1) (new g2) hget fun s' F => ?_
  · cases z : X.K.lookup (hp.objs.size + 1) with
    | none => rfl
    | some o => exact absurd rfl (new (I.kIn _ _ z))
  · obtain ⟨k, ⟨t, d, h1, h2, h3, h4⟩, hg, ho⟩ := F
    have hlt := Heap.lt_size hget
    exact ⟨rfl, h _ t d s' hsz (Nat.le_trans (Nat.le_of_lt (Nat.lt_of_succ_lt hlt)) h3) h4 (fun b o z => k b o (new z).symm (kk' b o z)) h1 h2 hg ho⟩
/-- C() is made -/
theorem err_make0 {R : Value → Shared → Prop} {E : Value → Shared → Prop} (T : ErrT X.prog X.K X.mg C fI B newId initId bmB ["self"] params body scope) (hev : SupOk scope txt kk p0 p1 p2 p3 p4)
    (hbody : body = [.Expr (supE txt kk p0 p1 p2 p3 p4) p5]) (hr : Room 1 X.A) (I : L2.Inv X pins σ H1 s1)
    (h : ∀ (a t : Addr) (s' : Shared), s1.heap.objs.size ≤ a → (∀ b o, s1.heap.get? b = some o → s'.heap.get? b = some o) → s'.heap.get? a = some (erO C t none) → s'.gens = s1.gens → s'.os = s1.os → R (.ref a) s') :
    wpAny (model X.prog X.w) X.A (call (.ref C) []) R E s1 := by
  obtain ⟨nm, q, N, bs, bm, sn, sub, ab, col, dd, k0, k1, k2, k3, k5, hC, hT, hp⟩ := T.f.cls
  have hsz : s1.heap.objs.size ≤ s1.heap.objs.size + 1 := Nat.le_succ _
  have I0 := I
  obtain ⟨hp, g, dr, tk, os⟩ := s1
  have kk' : ∀ b o, hp.get? b = some o → ((hp.push (PySem.W.kdv_tup [])).push (PySem.HandSPX.excO C hp.objs.size)).get? b = some o := fun b o e => Heap.get?_push_of_some _ (Heap.get?_push_of_some _ e)
  have hget : ((hp.push (PySem.W.kdv_tup [])).push (PySem.HandSPX.excO C hp.objs.size)).get? (hp.objs.size + 1) = some (erO C hp.objs.size none) := by heap_get
  have W := (errW I).keeps kk'
  have new : ∀ {b : Addr} {o : Obj}, hp.get? b = some o → hp.objs.size + 1 ≠ b := fun {b o} z => Nat.ne_of_gt (Nat.lt_of_lt_of_le (Heap.lt_size z) hsz)
  obtain ⟨og, g1⟩ : ∃ o, hp.get? mainGlobals = some o := by
    obtain ⟨o, _, _, z, _⟩ := (errW I).glob
    exact ⟨o, z⟩
  obtain ⟨ob, g2⟩ : ∃ o, hp.get? builtinsNs = some o := by
    obtain ⟨mb, ⟨o, _, _, z, _⟩, _⟩ := (errW I).blt
    exact ⟨o, z⟩
  refine wpAny_call (PySem.HandSPX.call_own T.f.bf hT (I.kIn _ _ hC) (PySem.W.looks_findIn I.kIn T.f.ini) (fun self => PySem.W.bind_fn I.kIn self T.f.tI) (by rw [sizeLine_eq]; show 0 ≤ _; decide) ?_)
  refine err_init0 (s := ⟨_, g, dr, tk, os⟩) (t0 := hp.objs.size) T.f T.s hev hbody (hr.make C [] []).depth W (I.nolimit.keeps kk') ?_ (new g1) (new g2) hget fun s' t k h1 hg ho => ?_
  · cases z : X.K.lookup (hp.objs.size + 1) with
    | none => rfl
    | some o => exact absurd rfl (new (I.kIn _ _ z))
  · exact ⟨rfl, h _ t s' hsz (fun b o z => k b o (new z).symm (kk' b o z)) h1 hg ho⟩
/-- raise C(x): the error, its dict at d, new -/
def tMk1 (C : Addr) (f : Str) (ta : TA) : L2.St → Hp → XK → Prop := fun σ H Q => ta σ H fun vs H1 => ∃ v, vs = [v] ∧ ∀ d, H1 d = none → Q (.ref C) (some d) (upd H1 d (.xd [(f, v)]))
def tMk2 (C : Addr) (f f2 : Str) (ta : TA) : L2.St → Hp → XK → Prop := fun σ H Q => ta σ H fun vs H1 => ∃ v v2, vs = [v, v2] ∧ ∀ d, H1 d = none → Q (.ref C) (some d) (upd H1 d (.xd [(f2, v2), (f, v)]))
theorem relO1 {f : Str} {v : V} {u : Value} (r : RelV v u) (g : Str) : RelO (([(f, v)] : List (Str × V)).lookup g) (if g = f then some u else none) := relO_put (fs := []) (mA := fun _ => none) r (fun g => True.intro) g
theorem relO2 {f f2 : Str} {v v2 : V} {u u2 : Value} (r : RelV v u) (r2 : RelV v2 u2) (g : Str) : RelO (([(f2, v2), (f, v)] : List (Str × V)).lookup g) (if g = f2 then some u2 else if g = f then some u else none) := relO_put (fs := [(f, v)]) r2 (relO1 r) g
theorem pmk_err1 {e : Expr} {ta : TA} {p pos : Pos} (T : ErrT X.prog X.K X.mg C fI B newId initId bmB ["self", x] params body scope) (hev : SupOk scope txt kk p0 p1 p2 p3 p4) (D : Sto scope x f q1 q2 q3 q4) (hfn : PySem.W.findIn X.K (.ref C) f = some none)
    (hbody : body = [.Expr (supE txt kk p0 p1 p2 p3 p4) p5, .Assign [.Attribute (.Name "self" q1) f q2] (.Name x q3) q4]) (hr : Room 1 X.A) (hg : Gl X cn) (hm : X.mg cn = some (.ref C)) (ha : PA X [e] ta)
    (hdb : (cn == ("__debug__" : Str)) = false := by decide) (he : starEach [e] X.env = (false, eval e X.env) :: starEach [] X.env := by rfl) : PMk X (.Call (.Name cn p) [e] [] pos) (tMk1 C f ta) := by
  intro pins s σ H Q I h
  refine wpAny_Call_Name_kw (ld_glob I hg hm ?_ hdb)
  refine PySem.W.callWith_K (h₀ := X.base) I.ok.mod.kin T.f.kC (thn (ha.run pos pins s σ H _ I h) fun us s1 ⟨vs, H1, I1, r1, v, ev, q1⟩ => ⟨I1.kIn, ?_⟩) he rfl
  subst ev
  cases r1 with
  | @cons _ u _ ur ru rr =>
    cases rr
    show wpAny _ _ (call (.ref C) [u]) _ _ _
    refine err_make1 T hev D hfn hbody hr I1 fun a t d s' z1 z2 z3 z4 z5 z6 z7 z8 => ?_
    obtain ⟨G, J, kG, ge, na⟩ := err_inv I1 z1 z2 z3 z4 z6 (relO1 ru)
    exact ⟨a, _, _, _, _, .ref C, some d, rfl, J, kG, ge, z5, ⟨rfl, rfl⟩, rfl, rfl, na, z8, by rw [z7]; exact I1.bare, raises_own T.f.exC T.f.tyC, q1 d (I1.hok.fresh z2)⟩
theorem pmk_err2 {e e2 : Expr} {ta : TA} {p pos : Pos} (T : ErrT X.prog X.K X.mg C fI B newId initId bmB ["self", x, y] params body scope) (hev : SupOk scope txt kk p0 p1 p2 p3 p4) (D : Sto scope x f q1 q2 q3 q4) (D2 : Sto scope y f2 r1 r2 r3 r4) (hfn : PySem.W.findIn X.K (.ref C) f = some none) (hfn2 : PySem.W.findIn X.K (.ref C) f2 = some none)
    (hbody : body = [.Expr (supE txt kk p0 p1 p2 p3 p4) p5, .Assign [.Attribute (.Name "self" q1) f q2] (.Name x q3) q4, .Assign [.Attribute (.Name "self" r1) f2 r2] (.Name y r3) r4]) (hr : Room 1 X.A) (hg : Gl X cn) (hm : X.mg cn = some (.ref C)) (ha : PA X [e, e2] ta)
    (hdb : (cn == ("__debug__" : Str)) = false := by decide) (he : starEach [e, e2] X.env = (false, eval e X.env) :: starEach [e2] X.env := by rfl) (hpl : (backTo pos (starEach [e2] X.env)).any (·.1) = false := by rfl) : PMk X (.Call (.Name cn p) [e, e2] [] pos) (tMk2 C f f2 ta) := by
  intro pins s σ H Q I h
  refine wpAny_Call_Name_kw (ld_glob I hg hm ?_ hdb)
  refine PySem.W.callWith_K (h₀ := X.base) I.ok.mod.kin T.f.kC (thn (ha.run pos pins s σ H _ I h) fun us s1 ⟨vs, H1, I1, r1, v, v2, ev, q1⟩ => ⟨I1.kIn, ?_⟩) he hpl
  subst ev
  cases r1 with
  | @cons _ u _ ur ru rr =>
    cases rr with
    | @cons _ u2 _ ur2 ru2 rr =>
      cases rr
      show wpAny _ _ (call (.ref C) [u, u2]) _ _ _
      refine err_make2 T hev D D2 hfn hfn2 hbody hr I1 fun a t d s' z1 z2 z3 z4 z5 z6 z7 z8 => ?_
      obtain ⟨G, J, kG, ge, na⟩ := err_inv I1 z1 z2 z3 z4 z6 (relO2 ru ru2)
      exact ⟨a, _, _, _, _, .ref C, some d, rfl, J, kG, ge, z5, ⟨rfl, rfl⟩, rfl, rfl, na, z8, by rw [z7]; exact I1.bare, raises_own T.f.exC T.f.tyC, q1 d (I1.hok.fresh z2)⟩
end
end L3
/-! == and != of lists of own objects. -/
namespace L3
open PySem PySem.Spec PyProof.Rows L2
open MeetsSeq MeetsSeq2 MeetsSeq3 SeqRoads2
open AutoSeq1 (wpAny_loadPart')
/-- x == y answers b, and nothing changes -/
def EqStep (X : Cx) (H : Hp) (x y : V) (b : Bool) : Prop := ∀ (pins : List (Addr × Obj)) (s : Shared) (σ : L2.St) (H' : Hp) (u v : Value) (Q : Bool → Shared → Prop) (E' : Value → Shared → Prop), L2.Inv X pins σ H' s → Same H H' → RelV x u → RelV y v →
  (∀ H'' s', L2.Inv X pins σ H'' s' → Same H' H'' → Q b s') → wpAny (model X.prog X.w) X.A.in1 (eqBool u v) Q E' s
section
variable {X : Cx} {C f : Addr} {fd : FuncData} {k : Nat} {sp : Sp} {y : Str}
theorem EqStep.self {H : Hp} {a : Addr} : EqStep X H (.ref a) (.ref a) true := by
  intro pins s σ H' u v Q E' I sm r1 r2 h
  cases r1
  cases r2
  unfold eqBool
  refine wpAny_holding ?_
  exact wpAny_ite_split (fun _ => wpAny_bind (wpAny_rule (wpAny_pure (h H' s I (Same.refl _))))) (fun z => (z (by simp)).elim)
theorem EqStep.own {H : Hp} {a b : Addr} {z : Bool} (F : FnOkG X.prog X.w X.K X.mg X.base CX0 k f fd ["self", y] sp) (hr : Room (k + 1) X.A) (hG : X.A.guards = some []) (hb : L2.Binds X.K fd ["self", y] []) (m : Meth X.K C "__eq__" f) (hne : a ≠ b)
    (hn : PySem.W.notFirst X.K C (.ref C) = true) (h : ∀ H', Same H H' → (∃ dx fs, H' a = some (.ins C dx fs)) ∧ (∃ dx fs, H' b = some (.ins C dx fs)) ∧ sp [.ref a, .ref b] H' (fun v H'' => v = .bl z ∧ Same H' H'') E0) : EqStep X H (.ref a) (.ref b) z := by
  intro pins s σ H' u v Q E' I sm r1 r2 hQ
  cases r1
  cases r2
  obtain ⟨⟨dx, fs, ha⟩, ⟨dy, gs, hb'⟩, h⟩ := h H' sm
  obtain ⟨mA, O, _⟩ := ins_get I.hok ha
  obtain ⟨od, J, _⟩ := O.look
  obtain ⟨mB, O2, _⟩ := ins_get I.hok hb'
  obtain ⟨od2, J2, _⟩ := O2.look
  obtain ⟨mm, FF⟩ := I.fr
  unfold eqBool
  refine wpAny_holding ?_
  refine wpAny_ite_split (fun hab => absurd (by have := eq_of_beq hab; injection this) hne) (fun _ => ?_)
  refine wpAny_bind ?_
  have hu := hr.units
  refine PySem.W.cmp_K (op := .Eq) (by show X.A.units + 1 < cLine; omega) FF I.ok.mod.kin J J2.type hn m.at_ m.fn ?_
  refine run_own (vs := [.ref a, .ref b]) (us := [.ref a, .ref b]) F hr hG hb I (.cons rfl (.cons rfl .nil)) h fun w s' hq => ?_
  obtain ⟨v, H2, I2, rv, rfl, sm2⟩ := hq
  cases rv
  exact (show wpAny _ _ (truthy (.bool z)) _ _ _ from wpAny_truthy_bool (hQ H2 s' I2 sm2))
end
theorem rel_at {xs : List V} {us : List Value} (r : Vals xs us) : ∀ {i : Nat} {x : V} {u : Value}, xs[i]? = some x → us[i]? = some u → RelV x u := by
  induction r with
  | nil => intro i x u h; simp at h
  | cons a _ ih =>
    intro i x u h1 h2
    cases i with
    | zero => simp at h1 h2; subst h1 h2; exact a
    | succ i => simp at h1 h2; exact ih h1 h2
section
variable {X : Cx} {pins : List (Addr × Obj)} {σ : L2.St} {H : Hp} {l r : Addr} {L M : List V} {e : Nat → Bool}
theorem eqL_loop (hl : ∀ H', Same H H' → SqL X.K H' l L) (hr : ∀ H', Same H H' → SqL X.K H' r M) (hz : L.length = M.length) (he : ∀ i x y, L[i]? = some x → M[i]? = some y → EqStep X H x y (e i)) {R : Result → Shared → Prop} (hR : ∀ H' s', L2.Inv X pins σ H' s' → Same H H' → R (.ok (.ret (.bool ((List.range L.length).all e)))) s') :
    ∀ (k i : Nat) (s : Shared) (H' : Hp), L.length - i = k → i ≤ L.length → (List.range i).all e = true → L2.Inv X pins σ H' s → Same H H' →
    wpAny (model X.prog X.w) X.A.in1 (Builtin.«list.__eq__.loop» ⟨[.ref l, .ref r, rawInt i, rawInt 2], []⟩) (fun fin s' => match fin with | .done f => R (.ok f) s' | .again c' => c'.quiet = true ∧ codeAny (model X.prog X.w) X.A c' R s') (fun ex s' => R (.error ex) s') s := by
  intro k
  induction k with
  | zero =>
    intro i s H' hk hi hall I sm
    have hie : i = L.length := by omega
    obtain ⟨its, r1, pl, hz1⟩ := I.list (hl H' sm)
    obtain ⟨jts, r2, pm, hz2⟩ := I.list (hr H' sm)
    have n1 := r1.length
    have n2 := r2.length
    obtain ⟨⟨c1, d1, da1, s1⟩, ho1, hc1, m1, hd1⟩ := id pl.isList
    obtain ⟨⟨c2, d2, da2, s2⟩, ho2, hc2, m2, hd2⟩ := id pm.isList
    simp only at hc1 hd1 hc2 hd2
    subst hc1 hd1 hc2 hd2
    have I0 := I
    obtain ⟨hp, g, d, tk, os⟩ := s
    have a1 : its.toArray[((i : Nat) : Int).toNat]? = none := by simp; omega
    have a2 : jts.toArray[((i : Nat) : Int).toNat]? = none := by simp; omega
    wp_walk using wpAny_loadPart' ho1, wpAny_loadPart' ho2
    rw [a1, a2]
    wp_walk using wpAny_loadPart' ho1, wpAny_loadPart' ho2
    show R (.ok (.ret (.bool (its.toArray.size == jts.toArray.size)))) _
    have q := hR H' _ I0 sm
    rw [← hie, hall] at q
    rw [show (its.toArray.size == jts.toArray.size) = true by simp; omega]
    exact q
  | succ k ih =>
    intro i s H' hk hi hall I sm
    have hlt : i < L.length := by omega
    obtain ⟨its, r1, pl, hz1⟩ := I.list (hl H' sm)
    obtain ⟨jts, r2, pm, hz2⟩ := I.list (hr H' sm)
    have n1 := r1.length
    have n2 := r2.length
    obtain ⟨⟨c1, d1, da1, s1⟩, ho1, hc1, m1, hd1⟩ := id pl.isList
    obtain ⟨⟨c2, d2, da2, s2⟩, ho2, hc2, m2, hd2⟩ := id pm.isList
    simp only at hc1 hd1 hc2 hd2
    subst hc1 hd1 hc2 hd2
    have hi1 : i < its.length := by omega
    have hi2 : i < jts.length := by omega
    have a1 : its.toArray[((i : Nat) : Int).toNat]? = some its[i] := by simp [hi1]
    have a2 : jts.toArray[((i : Nat) : Int).toNat]? = some jts[i] := by simp [hi2]
    have I0 := I
    obtain ⟨hp, g, d, tk, os⟩ := s
    wp_walk using wpAny_loadPart' ho1, wpAny_loadPart' ho2
    rw [a1, a2]
    obtain ⟨x, hx⟩ : ∃ x, L[i]? = some x := ⟨L[i], List.getElem?_eq_getElem hlt⟩
    obtain ⟨y, hy⟩ : ∃ y, M[i]? = some y := ⟨M[i]'(by omega), List.getElem?_eq_getElem (by omega)⟩
    have rx := rel_at r1 hx (List.getElem?_eq_getElem hi1)
    have ry := rel_at r2 hy (List.getElem?_eq_getElem hi2)
    refine wpAny_bind (he i x y hx hy pins _ σ H' _ _ _ _ I0 sm rx ry fun H2 s2 I2 sm2 => ?_)
    have sm' := sm.trans sm2
    have hc : ((i : Int) + 1) = ((i + 1 : Nat) : Int) := by push_cast; rfl
    cases hb : e i with
    | true =>
      obtain ⟨hp2, g2, d2, tk2, os2⟩ := s2
      wp_walk
      rw [hc]
      refine ⟨plainId_quiet plain_eq_loop _, codeAny_builtin entry_eq_loop ?_⟩
      rw [Around.under_plainId plain_eq_loop _]
      exact ih (i + 1) _ H2 (by omega) hlt (by rw [List.range_succ, List.all_append, hall]; simp [hb]) I2 sm'
    | false =>
      obtain ⟨its', r1', pl', _⟩ := I2.list (hl H2 sm')
      obtain ⟨jts', r2', pm', _⟩ := I2.list (hr H2 sm')
      have n1' := r1'.length
      have n2' := r2'.length
      obtain ⟨⟨c1', d1', da1', s1'⟩, ho1', hc1', m1', hd1'⟩ := id pl'.isList
      obtain ⟨⟨c2', d2', da2', s2'⟩, ho2', hc2', m2', hd2'⟩ := id pm'.isList
      simp only at hc1' hd1' hc2' hd2'
      subst hc1' hd1' hc2' hd2'
      have hi1' : i < its'.length := by omega
      have hi2' : i < jts'.length := by omega
      have b1 : its'.toArray[((i : Nat) : Int).toNat]? = some its'[i] := by simp [hi1']
      have b2 : jts'.toArray[((i : Nat) : Int).toNat]? = some jts'[i] := by simp [hi2']
      have q := hR H2 _ I2 sm'
      rw [show (List.range L.length).all e = false from List.all_eq_false.mpr ⟨i, List.mem_range.mpr hlt, by rw [hb]; decide⟩] at q
      obtain ⟨hp2, g2, d2, tk2, os2⟩ := s2
      wp_walk using wpAny_loadPart' ho1', wpAny_loadPart' ho2'
      rw [b1, b2]
      wp_walk
      exact q
/-- list == list -/
theorem op_eqL (hu : X.A.units + 64 < cLine) : OpR X (compareOp .Eq) (fun x y H Q => ∃ (l r : Addr) (L M : List V) (e : Nat → Bool), x = .ref l ∧ y = .ref r ∧ (∀ H', Same H H' → SqL X.K H' l L) ∧ (∀ H', Same H H' → SqL X.K H' r M) ∧ L.length = M.length ∧
    (∀ i x y, L[i]? = some x → M[i]? = some y → EqStep X H x y (e i)) ∧ ∀ H', Same H H' → Q (.bl ((List.range L.length).all e)) H') := by
  intro pins s σ H x y v u Q I rx ry h
  obtain ⟨l, r, L, M, e, rfl, rfl, hl, hr, hz, he, q⟩ := h
  cases rx
  cases ry
  obtain ⟨its, r1, pl, hz1⟩ := I.list (hl H (Same.refl _))
  obtain ⟨jts, r2, pm, hz2⟩ := I.list (hr H (Same.refl _))
  have n1 := r1.length
  have n2 := r2.length
  obtain ⟨⟨c1, d1, da1, s1⟩, ho1, hc1, m1, hd1⟩ := id pl.isList
  obtain ⟨⟨c2, d2, da2, s2⟩, ho2, hc2, m2, hd2⟩ := id pm.isList
  simp only at hc1 hd1 hc2 hd2
  subst hc1 hd1 hc2 hd2
  show wpAny _ _ (richCompare .Eq (.ref l) (.ref r)) _ _ _
  refine wpAny_richCompare_same_room (T := "list") (op := .Eq) ⟨_, ho1, rfl⟩ ⟨_, ho2, rfl⟩ F.slot_list_eq ?_ (by omega)
  refine wpAny_call (codeAny_call_builtin F.slot_list_eq.plain F.entry_list_eq (F.slot_list_eq.check _ _ _ _ _ _ _ _ ⟨_, ho1, rfl⟩ (F.args_list_eq_2 _ _) ?_))
  have I0 := I
  obtain ⟨hp, g, d, tk, os⟩ := s
  have f3 := AutoSeq1.sub_list_list
  have hne : ¬ (its.toArray.size != jts.toArray.size) = true := by simp; omega
  wp_walk using wpAny_loadPart' ho1, wpAny_loadPart' ho2
  refine wpAny_ite_split (fun z => absurd z hne) (fun _ => wpAny_pure ?_)
  refine ⟨plainId_quiet plain_eq_loop _, codeAny_builtin entry_eq_loop ?_⟩
  rw [Around.under_plainId plain_eq_loop _]
  have key := eqL_loop (H := H) (pins := pins) (σ := σ) hl hr hz he (R := fun r s' => match r with | .ok (.ret v) => v ≠ .notImplemented ∧ EP X pins σ Q v s' | .ok _ => False | .error e => X.xe e s') (fun H' s' I' sm => ⟨(fun z => by cases z), .bl _, H', I', rfl, q H' sm⟩) _ 0 _ H rfl (Nat.zero_le _) rfl I0 (Same.refl _)
  exact key
theorem neL_loop (hl : ∀ H', Same H H' → SqL X.K H' l L) (hr : ∀ H', Same H H' → SqL X.K H' r M) (hz : L.length = M.length) (he : ∀ i x y, L[i]? = some x → M[i]? = some y → EqStep X H x y (e i)) {R : Result → Shared → Prop} (hR : ∀ H' s', L2.Inv X pins σ H' s' → Same H H' → R (.ok (.ret (.bool (!(List.range L.length).all e)))) s') :
    ∀ (k i : Nat) (s : Shared) (H' : Hp), L.length - i = k → i ≤ L.length → (List.range i).all e = true → L2.Inv X pins σ H' s → Same H H' →
    wpAny (model X.prog X.w) X.A.in1 (Builtin.«list.__eq__.loop» ⟨[.ref l, .ref r, rawInt i, rawInt 3], []⟩) (fun fin s' => match fin with | .done f => R (.ok f) s' | .again c' => c'.quiet = true ∧ codeAny (model X.prog X.w) X.A c' R s') (fun ex s' => R (.error ex) s') s := by
  intro k
  induction k with
  | zero =>
    intro i s H' hk hi hall I sm
    have hie : i = L.length := by omega
    obtain ⟨its, r1, pl, hz1⟩ := I.list (hl H' sm)
    obtain ⟨jts, r2, pm, hz2⟩ := I.list (hr H' sm)
    have n1 := r1.length
    have n2 := r2.length
    obtain ⟨⟨c1, d1, da1, s1⟩, ho1, hc1, m1, hd1⟩ := id pl.isList
    obtain ⟨⟨c2, d2, da2, s2⟩, ho2, hc2, m2, hd2⟩ := id pm.isList
    simp only at hc1 hd1 hc2 hd2
    subst hc1 hd1 hc2 hd2
    have I0 := I
    obtain ⟨hp, g, d, tk, os⟩ := s
    have a1 : its.toArray[((i : Nat) : Int).toNat]? = none := by simp; omega
    have a2 : jts.toArray[((i : Nat) : Int).toNat]? = none := by simp; omega
    wp_walk using wpAny_loadPart' ho1, wpAny_loadPart' ho2
    rw [a1, a2]
    wp_walk using wpAny_loadPart' ho1, wpAny_loadPart' ho2
    show R (.ok (.ret (.bool (its.toArray.size != jts.toArray.size)))) _
    have q := hR H' _ I0 sm
    rw [← hie, hall] at q
    rw [show (its.toArray.size != jts.toArray.size) = false by simp; omega]
    exact q
  | succ k ih =>
    intro i s H' hk hi hall I sm
    have hlt : i < L.length := by omega
    obtain ⟨its, r1, pl, hz1⟩ := I.list (hl H' sm)
    obtain ⟨jts, r2, pm, hz2⟩ := I.list (hr H' sm)
    have n1 := r1.length
    have n2 := r2.length
    obtain ⟨⟨c1, d1, da1, s1⟩, ho1, hc1, m1, hd1⟩ := id pl.isList
    obtain ⟨⟨c2, d2, da2, s2⟩, ho2, hc2, m2, hd2⟩ := id pm.isList
    simp only at hc1 hd1 hc2 hd2
    subst hc1 hd1 hc2 hd2
    have hi1 : i < its.length := by omega
    have hi2 : i < jts.length := by omega
    have a1 : its.toArray[((i : Nat) : Int).toNat]? = some its[i] := by simp [hi1]
    have a2 : jts.toArray[((i : Nat) : Int).toNat]? = some jts[i] := by simp [hi2]
    have I0 := I
    obtain ⟨hp, g, d, tk, os⟩ := s
    wp_walk using wpAny_loadPart' ho1, wpAny_loadPart' ho2
    rw [a1, a2]
    obtain ⟨x, hx⟩ : ∃ x, L[i]? = some x := ⟨L[i], List.getElem?_eq_getElem hlt⟩
    obtain ⟨y, hy⟩ : ∃ y, M[i]? = some y := ⟨M[i]'(by omega), List.getElem?_eq_getElem (by omega)⟩
    have rx := rel_at r1 hx (List.getElem?_eq_getElem hi1)
    have ry := rel_at r2 hy (List.getElem?_eq_getElem hi2)
    refine wpAny_bind (he i x y hx hy pins _ σ H' _ _ _ _ I0 sm rx ry fun H2 s2 I2 sm2 => ?_)
    have sm' := sm.trans sm2
    have hc : ((i : Int) + 1) = ((i + 1 : Nat) : Int) := by push_cast; rfl
    cases hb : e i with
    | true =>
      obtain ⟨hp2, g2, d2, tk2, os2⟩ := s2
      wp_walk
      rw [hc]
      refine ⟨plainId_quiet plain_eq_loop _, codeAny_builtin entry_eq_loop ?_⟩
      rw [Around.under_plainId plain_eq_loop _]
      exact ih (i + 1) _ H2 (by omega) hlt (by rw [List.range_succ, List.all_append, hall]; simp [hb]) I2 sm'
    | false =>
      obtain ⟨its', r1', pl', _⟩ := I2.list (hl H2 sm')
      obtain ⟨jts', r2', pm', _⟩ := I2.list (hr H2 sm')
      have n1' := r1'.length
      have n2' := r2'.length
      obtain ⟨⟨c1', d1', da1', s1'⟩, ho1', hc1', m1', hd1'⟩ := id pl'.isList
      obtain ⟨⟨c2', d2', da2', s2'⟩, ho2', hc2', m2', hd2'⟩ := id pm'.isList
      simp only at hc1' hd1' hc2' hd2'
      subst hc1' hd1' hc2' hd2'
      have hi1' : i < its'.length := by omega
      have hi2' : i < jts'.length := by omega
      have b1 : its'.toArray[((i : Nat) : Int).toNat]? = some its'[i] := by simp [hi1']
      have b2 : jts'.toArray[((i : Nat) : Int).toNat]? = some jts'[i] := by simp [hi2']
      have q := hR H2 _ I2 sm'
      rw [show (List.range L.length).all e = false from List.all_eq_false.mpr ⟨i, List.mem_range.mpr hlt, by rw [hb]; decide⟩] at q
      obtain ⟨hp2, g2, d2, tk2, os2⟩ := s2
      wp_walk using wpAny_loadPart' ho1', wpAny_loadPart' ho2'
      rw [b1, b2]
      wp_walk
      exact q
/-- list != list -/
theorem op_neL (hu : X.A.units + 64 < cLine) : OpR X (compareOp .NotEq) (fun x y H Q => ∃ (l r : Addr) (L M : List V) (e : Nat → Bool), x = .ref l ∧ y = .ref r ∧ (∀ H', Same H H' → SqL X.K H' l L) ∧ (∀ H', Same H H' → SqL X.K H' r M) ∧ L.length = M.length ∧
    (∀ i x y, L[i]? = some x → M[i]? = some y → EqStep X H x y (e i)) ∧ ∀ H', Same H H' → Q (.bl (!(List.range L.length).all e)) H') := by
  intro pins s σ H x y v u Q I rx ry h
  obtain ⟨l, r, L, M, e, rfl, rfl, hl, hr, hz, he, q⟩ := h
  cases rx
  cases ry
  obtain ⟨its, r1, pl, hz1⟩ := I.list (hl H (Same.refl _))
  obtain ⟨jts, r2, pm, hz2⟩ := I.list (hr H (Same.refl _))
  have n1 := r1.length
  have n2 := r2.length
  obtain ⟨⟨c1, d1, da1, s1⟩, ho1, hc1, m1, hd1⟩ := id pl.isList
  obtain ⟨⟨c2, d2, da2, s2⟩, ho2, hc2, m2, hd2⟩ := id pm.isList
  simp only at hc1 hd1 hc2 hd2
  subst hc1 hd1 hc2 hd2
  show wpAny _ _ (richCompare .NotEq (.ref l) (.ref r)) _ _ _
  refine wpAny_richCompare_same_room (T := "list") (op := .NotEq) ⟨_, ho1, rfl⟩ ⟨_, ho2, rfl⟩ F.slot_list_ne ?_ (by omega)
  refine wpAny_call (codeAny_call_builtin F.slot_list_ne.plain F.entry_list_ne (F.slot_list_ne.check _ _ _ _ _ _ _ _ ⟨_, ho1, rfl⟩ (F.args_list_ne_2 _ _) ?_))
  have I0 := I
  obtain ⟨hp, g, d, tk, os⟩ := s
  have f3 := AutoSeq1.sub_list_list
  have hne : ¬ (its.toArray.size != jts.toArray.size) = true := by simp; omega
  wp_walk using wpAny_loadPart' ho1, wpAny_loadPart' ho2
  refine wpAny_ite_split (fun z => absurd z hne) (fun _ => wpAny_pure ?_)
  refine ⟨plainId_quiet plain_eq_loop _, codeAny_builtin entry_eq_loop ?_⟩
  rw [Around.under_plainId plain_eq_loop _]
  have key := neL_loop (H := H) (pins := pins) (σ := σ) hl hr hz he (R := fun r s' => match r with | .ok (.ret v) => v ≠ .notImplemented ∧ EP X pins σ Q v s' | .ok _ => False | .error e => X.xe e s') (fun H' s' I' sm => ⟨(fun z => by cases z), .bl _, H', I', rfl, q H' sm⟩) _ 0 _ H rfl (Nat.zero_le _) rfl I0 (Same.refl _)
  exact key
end
end L3
/-! repr of lists that hold own objects. -/
namespace L3
open PySem PySem.Spec PyProof.Rows L2
/-- each list whose repr is under way holds an own object -/
def GOk (H : Hp) (g : List Code) : Prop := ∀ id v rest kw, Code.builtin id ⟨v :: rest, kw⟩ ∈ g → ∃ (l m C dx : Addr) (xs : List V) (fs : List (Str × V)), v = .ref l ∧ H l = some (.lst xs) ∧ V.ref m ∈ xs ∧ H m = some (.ins C dx fs)
theorem GOk.nil (H : Hp) : GOk H [] := fun _ _ _ _ h => nomatch h
theorem GOk.same {H H' : Hp} {g : List Code} (h : GOk H g) (s : Same H H') : GOk H' g := fun id v rest kw hm => by
  obtain ⟨l, m, C, dx, xs, fs, h1, h2, h3, h4⟩ := h id v rest kw hm
  exact ⟨l, m, C, dx, xs, fs, h1, s _ _ h2, h3, s _ _ h4⟩
theorem GOk.cons {H : Hp} {g : List Code} {id : String} {rest : List Value} {kw : List (Str × Value)} {l m C dx : Addr} {xs : List V} {fs : List (Str × V)} (h : GOk H g) (h2 : H l = some (.lst xs)) (h3 : V.ref m ∈ xs) (h4 : H m = some (.ins C dx fs)) : GOk H (.builtin id ⟨.ref l :: rest, kw⟩ :: g) := fun id' v' rest' kw' hm => by
  rcases List.mem_cons.mp hm with e | hm
  · cases e
    exact ⟨l, m, C, dx, xs, fs, rfl, h2, h3, h4⟩
  · exact h _ _ _ _ hm
theorem reads_mem {h : Heap} : ∀ {vs : List Value} {ds : List PyData} {as : List Addr}, ReadsAll h vs ds as → ∀ v ∈ vs, ∃ d as', Reads h v d as'
  | _, _, _, .nil, v, hv => nomatch hv
  | _, _, _, .cons r rs, v, hv => by
    rcases List.mem_cons.mp hv with rfl | hv
    · exact ⟨_, _, r⟩
    · exact reads_mem rs v hv
theorem vals_mem : ∀ {xs : List V} {us : List Value}, Vals xs us → ∀ {m : Addr}, V.ref m ∈ xs → Value.ref m ∈ us
  | _, _, .nil, m, h => nomatch h
  | _, _, .cons r t, m, h => by
    rcases List.mem_cons.mp h with e | h
    · subst e
      cases r
      exact List.mem_cons_self
    · exact List.mem_cons_of_mem _ (vals_mem t h)
section
variable {X : Cx} {pins : List (Addr × Obj)} {σ : L2.St} {H : Hp} {s : Shared} {g : List Code}
/-- what can be read as data is none of these lists -/
theorem gok_clear (I : L2.Inv X pins σ H s) (hg : GOk H g) {b : Addr} {d : PyData} {as : List Addr} (r : Reads s.heap (.ref b) d as) : Clear g b := fun id v rest kw hm z => by
  obtain ⟨l, m, C, dx, xs, fs, h1, h2, h3, h4⟩ := hg id v rest kw hm
  rw [h1] at z
  obtain rfl := Value.ref.inj z
  obtain ⟨_, its, n, rv, hl⟩ := I.hok _ _ h2
  obtain ⟨mA, O, _⟩ := ins_get I.hok h4
  have hm' := vals_mem rv h3
  have hmo : s.heap.get? m = some (PySem.W.instObj C dx) := by
    obtain ⟨_, _, _, q, _⟩ := I.hok _ _ h4
    exact q
  cases r with
  | list q1 q2 q3 q4 =>
    rw [hl] at q1
    cases q1
    have e3 : Data.seq its.toArray n = Data.seq _ _ := q3
    cases e3
    obtain ⟨d', as', r'⟩ := reads_mem q4 (.ref m) (by simpa using hm')
    cases r' with
    | list w1 w2 _ _ => rw [hmo] at w1; cases w1; cases w2
    | tuple w1 w2 _ _ => rw [hmo] at w1; cases w1; cases w2
    | dict w1 w2 _ _ _ => rw [hmo] at w1; cases w1; cases w2
  | tuple q1 q2 q3 q4 => rw [hl] at q1; cases q1; exact absurd (Value.type.inj q2) (by decide)
  | dict q1 q2 q3 q4 q5 => rw [hl] at q1; cases q1; exact absurd (Value.type.inj q2) (by decide)
end
/-- an around that stands under X.A, with the guards g -/
structure AIn (X : Cx) (k : Nat) (g : List Code) (A : Around) : Prop where
  room : Room k A
  gd : A.guards = some g
  env : ∀ {pins : List (Addr × Obj)} {σ : L2.St} {H : Hp} {s : Shared}, L2.Inv X pins σ H s → Env0 X.prog X.w X.K X.mg X.base A X.stack s H
theorem AIn.base {X : Cx} {k : Nat} {g : List Code} (hr : Room k X.A) (hg : X.A.guards = some g) : AIn X k g X.A := ⟨hr, hg, fun I => I.env0⟩
theorem AIn.in1 {X : Cx} {k : Nat} {g : List Code} {A : Around} (h : AIn X (k + 1) g A) : AIn X k g A.in1 := ⟨h.room.in1, h.gd, fun I => (h.env I).in1⟩
theorem AIn.mono {X : Cx} {j k : Nat} {g : List Code} {A : Around} (h : AIn X k g A) (hj : j ≤ k) : AIn X j g A := ⟨h.room.mono hj, h.gd, h.env⟩
theorem depth_list_loop (A : Around) (args : Args) : (A.under (.builtin "list.__repr__.loop" args)).depth = A.depth + 1 := by
  first | rfl | simp [Around.under, Code.weight, Code.isCreation, Code.isGuard, Code.isCaller, Code.frames, Code.isFrame, guardIds]
theorem AIn.loop {X : Cx} {k : Nat} {g : List Code} {A : Around} (h : AIn X (k + 1) g A) (args : Args) : AIn X k (.builtin "list.__repr__.loop" args :: g) (A.under (.builtin "list.__repr__.loop" args)) := by
  refine ⟨⟨h.room.hd, ?_, ?_⟩, guards_under_guard (isGuard_list_loop _) h.gd, fun I => ?_⟩
  · rw [depth_list_loop]; have := h.room.dp; omega
  · rw [units_under_list_loop]; have := h.room.un; omega
  · have e := h.env I
    exact ⟨by first | exact e.frames | (simpa [Around.under, Code.envs, Code.isFrame, pushEnvs] using e.frames), e.mod, e.bs, e.bsz, e.funs, e.frf, e.hok, e.bare⟩
/-- repr(x) is t, and nothing changes -/
def ReprStep (X : Cx) (k : Nat) (H : Hp) (x : V) (t : Str) : Prop := ∀ (base : Nat) (A : Around) (g : List Code) (pins : List (Addr × Obj)) (s : Shared) (σ : L2.St) (H' : Hp) (u : Value) (Q : Str → Shared → Prop) (E' : Value → Shared → Prop), base + t.length ≤ sizeLine → AIn X k g A → GOk H' g → L2.Inv X pins σ H' s → Same H H' → RelV x u →
  (∀ H'' s', L2.Inv X pins σ H'' s' → Same H' H'' → Q t s') → wpAny (model X.prog X.w) A (pyReprUnder base u) Q E' s
section
variable {X : Cx} {k : Nat} {H : Hp}
theorem ReprStep.data {x : V} {d : PyData} (hd : Dp X.K H x d) (hs : d.showable = true) (hz : d.shown.length ≤ sizeLine) (hp : d.depth ≤ 50) : ReprStep X k H x d.shown := by
  intro base A g pins s σ H' u Q E' hb hA hg I sm rx hQ
  have hd' := Dp.same sm hd
  obtain ⟨as, r⟩ := Dp.reads I d x u hd' rx
  obtain ⟨bs, hbs, hk⟩ := ReprK.of_reads (prog := X.prog) (w := X.w) r hs (PyData.noDict_hsm (dp_noDict (K := X.K) (H := H') hd')) hz
  have hu := hA.room.units
  refine hk base hb A g E' s Q hA.gd (fun b hbm => ?_) (by omega) (fun _ _ e => e) fun h' tk kk => hQ H' _ (I.kept kk) (Same.refl _)
  obtain ⟨d', as', r', _⟩ := hbs b hbm
  exact gok_clear I hg r'
end
/-- a def that is called while reprs are under way -/
structure FnOkH (P : Program) (w : World) (K : PySem.W.Frag) (mg : Str → Option Value) (base : Heap) (CX : CXT) (k : Nat) (f : Addr) (fd : FuncData) (ps : List Str) (sp : Sp) : Prop where
  len : ∀ vs H Q E, sp vs H Q E → vs.length = ps.length
  run : ∀ (A : Around) (outer : List Env) (s : Shared) (H : Hp) (args : Args) (us : List Value) (vs : List V) (Q : VK) (E : XK) (g : List Code), Room k A → A.guards = some g → GOk H g → Env0 P w K mg base A outer s H → BindsTo s fd args (ps.zip us) → Vals vs us → sp vs H Q E →
    codeAny (model P w) A (.call (.ref f) args) (CR CX outer P w H s Q E) s
theorem FnOkH.toG {P : Program} {w : World} {K : PySem.W.Frag} {mg : Str → Option Value} {base : Heap} {CX : CXT} {k : Nat} {f : Addr} {fd : FuncData} {ps : List Str} {sp : Sp} (F : FnOkH P w K mg base CX k f fd ps sp) : FnOkG P w K mg base CX k f fd ps sp :=
  ⟨F.len, fun A outer s H args us vs Q E hr hg => F.run A outer s H args us vs Q E [] hr hg (GOk.nil H)⟩
theorem okH {P : Program} {w : World} {K : PySem.W.Frag} {mg : Str → Option Value} {base : Heap} {x qual : Str} {st : Stmt} {f : Addr} {fd : FuncData} {N ps : List Str} {k : Nat} {sp : Sp} (F : Fun K x qual st f fd) (S : FnScope N ps (defScope st)) (len : ∀ vs H Q E, sp vs H Q E → vs.length = ps.length)
    (hbody : ∀ (cdv : Value) (A : Around) (outer : List Env) (s : Shared) (H : Hp) (vs : List V) (Q : VK) (E : XK) (g : List Code), Room k (A.deeper (envOfC qual (defScope st) s.heap.objs.size f cdv)) → A.guards = some g → GOk H g → sp vs H Q E →
      ∃ t, PSs (cxOf CX0 P w K mg base N qual (defScope st) f cdv A outer s H E).nox (defBody st) t ∧ t { nx := fun _ H' => Q .non H', rt := Q } (L2.start N vs) H) : FnOkH P w K mg base CX0 (k + 1) f fd ps sp := by
  obtain ⟨oc, od, kV, doc, pm, an, cdv, ct, osl, rfl, lk, hcd⟩ := F.ex
  refine ⟨len, fun A outer s H args us vs Q E g hr hg hgo e0 hb r hsp => ?_⟩
  refine LamX.run_ofS lk hcd S hr e0 hb r (len _ _ _ _ hsp) fun hr' => ?_
  obtain ⟨t, h, q⟩ := hbody cdv A outer s H vs Q E g hr' hg hgo hsp
  exact ⟨t, h.nox, q⟩
section
variable {X : Cx} {C f : Addr} {fd : FuncData} {k : Nat} {sp : Sp} {H : Hp}
theorem ReprStep.own {a : Addr} {t : Str} (F : FnOkH X.prog X.w X.K X.mg X.base CX0 k f fd ["self"] sp) (hb : L2.Binds X.K fd ["self"] []) (m : Meth X.K C "__repr__" f)
    (h : ∀ H', Same H H' → (∃ dx fs, H' a = some (.ins C dx fs)) ∧ sp [.ref a] H' (fun v H'' => v = .str t ∧ Same H' H'') E0) (hz : t.length ≤ sizeLine) : ReprStep X k H (.ref a) t := by
  intro base A g pins s σ H' u Q E' hbs hA hg I sm rx hQ
  cases rx
  obtain ⟨⟨dx, fs, ha⟩, h⟩ := h H' sm
  obtain ⟨mA, O, _⟩ := ins_get I.hok ha
  obtain ⟨od, J, _⟩ := O.look
  have X1 := I.kIn
  have hu := hA.room.units
  have hrun : wpAny (model X.prog X.w) A (call (.ref f) [.ref a]) (fun v s' => ∃ H'' tk, v = .str t tk ∧ L2.Inv X pins σ H'' s' ∧ Same H' H'') E' s := by
    have hl : ([Value.ref a] ++ []).length = ["self"].length := rfl
    have hb' : BindsTo s fd ⟨[.ref a], []⟩ ([("self" : Str)].zip [Value.ref a]) := hb s [.ref a] I.kIn rfl
    refine wpAny_call (codeAny_mono (F.run A X.stack s H' ⟨[.ref a], []⟩ [.ref a] [.ref a] _ E0 g hA.room hA.gd hg (hA.env I) hb' (.cons rfl .nil) h) fun r s' hq => ?_)
    cases r with
    | error e => exact (show False from hq).elim
    | ok fl =>
      cases fl with
      | ret w =>
        obtain ⟨v, H2, I2, rv, rfl, sm2⟩ := I.after hq
        obtain ⟨tk, rfl⟩ := rv
        exact ⟨H2, tk, rfl, I2, sm2⟩
      | next => exact False.elim hq
      | brk => exact False.elim hq
      | cont => exact False.elim hq
  refine wpAny_pyReprUnder_ref (by omega) ?_
  unfold pyReprObjUnder pyReprObjBy
  refine wpAny_bind (wpAny_cRoomFor (by omega) ?_)
  refine wpAny_bind (wpAny_bind (J.type.here ((PySem.W.looks_findIn X1 m.at_).here ?_)))
  show wpAny _ _ (if (some (Value.ref f)).isNone = true then _ else _) _ _ _
  rw [if_neg (by simp)]
  refine wpAny_bind ?_
  simp only [callSpecialIfBoundBy?, bindSpecialIfBound?]
  refine wpAny_holding (wpAny_bind (wpAny_bind (wpAny_bind (J.type.here ((PySem.W.looks_findIn X1 m.at_).here ?_)))))
  refine wpAny_bind (wpAny_askSetting (wpAny_ite ?_))
  have last : ∀ (Q' : Option Value → Shared → Prop), (∀ H'' s' tk, L2.Inv X pins σ H'' s' → Same H' H'' → Q' (some (.str t tk)) s') → wpAny (model X.prog X.w) A ((match reprUnder? (.ref f), [Value.ref a] with | some twin, [self] => call twin [self, rawInt base] | _, _ => call (.ref f) ([Value.ref a] ++ [])) >>= fun v => pure (some v)) Q' E' s := fun Q' hQ' => by
    refine wpAny_bind (wpAny_mono hrun (fun v s' hv => ?_) fun _ _ e => e)
    obtain ⟨H'', tk, rfl, I2, sm2⟩ := hv
    exact wpAny_pure (hQ' H'' s' tk I2 sm2)
  have fin : ∀ H'' s' tk, L2.Inv X pins σ H'' s' → Same H' H'' → wpAny (model X.prog X.w) A (do if ← isInstance (.str t tk) (.type "str") then pure (Value.str t tk) else raiseError "TypeError" s!"__repr__ returned non-string (type {← typeNameOf (.str t tk)})") (fun v s'' => ∃ x u, v = .str x u ∧ Q x s'') E' s' := fun H'' s' tk I2 sm2 => by
    refine wpAny_bind (wpAny_isInstance (typeIs_str _ _ _) isSubtype_str_str ?_)
    rw [if_pos rfl]
    exact wpAny_pure ⟨t, tk, rfl, hQ H'' s' I2 sm2⟩
  split
  · exact wpAny_bind ((PySem.W.bind_fn X1 _ (beq_iff_eq.mp m.fn)).here (wpAny_pure (last _ fun H'' s' tk I2 sm2 => fin H'' s' tk I2 sm2)))
  · exact wpAny_tryCatch (wpAny_bind ((PySem.W.bind_fn X1 _ (beq_iff_eq.mp m.fn)).here (wpAny_pure (last _ fun H'' s' tk I2 sm2 => fin H'' s' tk I2 sm2))))
end
end L3
/-! repr of lists that hold own objects: the list. -/
namespace L3
open PySem PySem.Spec PyProof.Rows L2
open Builtin Builtin.List
abbrev lstO (acc : Array Value) (c : Nat) : Obj := { cls := .type "list", dict := none, data := .seq acc c, slots := #[] }
/-- a record of ours that may change -/
structure Mine (X : Cx) (pins : List (Addr × Obj)) (P : Addr) : Prop where
  new : X.s_0.heap.objs.size ≤ P
  cell : ∀ x c, X.env.cells.lookup x = some c → c ≠ P
  pin : ∀ p ∈ X.pn ++ pins, p.1 ≠ P
section
variable {X : Cx} {pins : List (Addr × Obj)} {σ : L2.St} {H : Hp} {s : Shared} {P : Addr}
theorem Mine.of (I : L2.Inv X pins σ H s) (hP : s.heap.objs.size ≤ P) : Mine X pins P := by
  refine ⟨Nat.le_trans I.sz hP, fun x c e z => ?_, fun p hp z => ?_⟩
  · obtain ⟨v, o, hv, _⟩ := I.cell x c e
    rw [z] at hv
    exact absurd (Heap.lt_size hv) (Nat.not_lt.mpr hP)
  · obtain ⟨q, _⟩ := I.pin p hp
    rw [z] at q
    exact absurd (Heap.lt_size q) (Nat.not_lt.mpr hP)
theorem repin {o o' : Obj} {h' : Heap} {t' : Nat} (M : Mine X pins P) (I : L2.Inv X ((P, o) :: pins) σ H s) (k : ∀ b u, b ≠ P → s.heap.get? b = some u → h'.get? b = some u) (ho : h'.get? P = some o') (hc : ∀ v, o'.data ≠ .cell v) :
    L2.Inv X ((P, o') :: pins) σ H { s with heap := h', toks := t' } := by
  obtain ⟨p1, p2, p3, p4, p5⟩ := I.pin (P, o) (List.mem_append_right _ List.mem_cons_self)
  have I1 := (ClX.unpin I).turned (t' := t') k p2 p3 (.inr M.new) M.cell M.pin
  refine I1.pins_of fun p hp => ?_
  rcases List.mem_cons.mp hp with e | e
  · subst e
    exact ⟨ho, p2, p3, p4, hc⟩
  · exact I1.pin p (List.mem_append_right _ e)
end
section
variable {X : Cx} {pins : List (Addr × Obj)} {σ : L2.St} {H : Hp} {k : Nat} {A : Around} {g : List Code} {base : Nat} {l P m C dx : Addr} {L : List V} {ts : List Str} {fs : List (Str × V)}
theorem reprL_loop (hA : AIn X (k + 1) g A) (hg : GOk H g) (hl : H l = some (.lst L)) (hm : V.ref m ∈ L) (hmi : H m = some (.ins C dx fs)) (hlen : ts.length = L.length) (hT : ∀ (i : Nat) x t, L[i]? = some x → ts[i]? = some t → ReprStep X k H x t) (hsz : base + (listText ts).length ≤ sizeLine) (M : Mine X pins P)
    {R : Result → Shared → Prop} (hR : ∀ H' s' u, L2.Inv X pins σ H' s' → Same H H' → R (.ok (.ret (.str (listText ts) u))) s') :
    ∀ (n i : Nat) (s : Shared) (H' : Hp) (acc : Array Value) (c : Nat) (done : List (Str × Tok)), L.length - i = n → i ≤ L.length → L2.Inv X ((P, lstO acc c) :: pins) σ H' s → Same H H' → acc.toList = strValues done → done.map (·.1) = ts.take i →
    codeAny (model X.prog X.w) A (.builtin "list.__repr__.loop" ⟨[.ref l, rawInt i, .ref P, rawInt ((base + piled (ts.take i) : Nat) : Int)], []⟩) R s := by
  have hX : (listText ts).length = (textFrom 0 "[" ts).length + 1 := by
    show (textFrom 0 "[" ts ++ "]").length = _
    rw [strLen_append]; rfl
  have hL := textFrom_len ts 0 "["
  have sz1 : L.length ≤ sizeLine := by
    have h1 := hL.1
    rw [if_neg (Nat.lt_irrefl 0)] at h1
    omega
  have sz2 : ∀ t ∈ ts, t.length ≤ sizeLine := fun t ht => by
    have h2 := hL.2.1 t ht
    omega
  have hp3 := piled_le_listText ts
  intro n
  induction n with
  | zero =>
    intro i s H' acc c done hn hi I sm hacc hdone
    have hin : i = L.length := by omega
    obtain ⟨_, its, na, rv, ho⟩ := (ClX.unpin I).hok _ _ (sm _ _ hl)
    have hP := ClX.pin_at I
    have nl := rv.length
    refine codeAny_builtin F.entry_list_repr_loop ?_
    show wpAny _ _ («list.__repr__.loop» ⟨[.ref l, .int i 0, .ref P, .int ((base + piled (ts.take i) : Nat) : Int) 0], []⟩) _ _ s
    rw [repr_loop_tree]
    refine wpAny_bind (wpAny_listItems ho rfl ?_)
    have hno : its.toArray[(i : Int).toNat]? = none := by simp; omega
    simp only [hno]
    unfold reprEnd
    refine wpAny_bind (wpAny_listItems hP rfl ?_)
    rw [hacc, repr_fold]
    refine wpAny_bind (wpAny_pure ?_)
    have hall : done.map (·.1) = ts := by rw [hdone, hin, ← hlen, List.take_length]
    rw [hall]
    refine wpAny_bind (wpAny_mkStr (wpAny_pure ?_) (by show (listText ts).length ≤ _; omega))
    exact hR H' _ _ ((ClX.unpin I).tok _) sm
  | succ n ih =>
    intro i s H' acc c done hn hi I sm hacc hdone
    have hlt : i < L.length := by omega
    obtain ⟨_, its, na, rv, ho⟩ := (ClX.unpin I).hok _ _ (sm _ _ hl)
    have nl := rv.length
    have hi1 : i < its.length := by omega
    obtain ⟨t, ht⟩ : ∃ t, ts[i]? = some t := ⟨ts[i]'(by omega), List.getElem?_eq_getElem (by omega)⟩
    have hx := List.getElem?_eq_getElem hlt
    have rx := rel_at rv hx (List.getElem?_eq_getElem hi1)
    have hp1 := piled_take_succ ht
    have hp2 := piled_take_le ts (i + 1)
    refine codeAny_builtin F.entry_list_repr_loop ?_
    show wpAny _ _ («list.__repr__.loop» ⟨[.ref l, .int i 0, .ref P, .int ((base + piled (ts.take i) : Nat) : Int) 0], []⟩) _ _ s
    rw [repr_loop_tree]
    refine wpAny_bind (wpAny_listItems ho rfl ?_)
    have hso : its.toArray[(i : Int).toNat]? = some its[i] := by simp [hi1]
    simp only [hso]
    rw [Int.toNat_natCast]
    refine wpAny_bind (wpAny_holding (hT i _ t hx ht (base + piled (ts.take i) + 1) _ _ ((P, lstO acc c) :: pins) s σ H' _ _ _ (by omega) (hA.loop _) ((hg.same sm).cons (sm _ _ hl) hm (sm _ _ hmi)) I sm rx fun H2 s2 I2 sm2 => ?_))
    have hP2 := ClX.pin_at I2
    refine wpAny_bind (wpAny_mkStr ?_ (sz2 t (List.mem_of_getElem? ht)))
    refine wpAny_bind ?_
    show wpAny _ _ (updateSeq P _) _ _ _
    have hasz : acc.size ≤ sizeLine := by
      have e1 : acc.toList.length = acc.size := by simp
      have e2 : (strValues done).length = done.length := by simp [strValues]
      have e3 : done.length = (ts.take i).length := by rw [← hdone, List.length_map]
      have e4 : (ts.take i).length ≤ i := by rw [List.length_take]; omega
      rw [hacc] at e1; omega
    refine wpAny_updateSeq hP2 rfl (wpAny_pure ⟨F.quiet_list_repr_loop _, ?_⟩) hasz
    have e1 : ((i : Int) + 1) = ((i + 1 : Nat) : Int) := by omega
    have e2 : base + piled (ts.take i) + (t.length + 2) = base + piled (ts.take (i + 1)) := by omega
    rw [e1, e2]
    have hP3 := Heap.get?_update_self (h := s2.heap) (Obj.mapSeq fun xs => xs.push (.str t s2.toks)) hP2 rfl
    refine ih (i + 1) _ H2 (acc.push (.str t s2.toks)) _ (done ++ [(t, s2.toks)]) (by omega) hlt (repin (t' := s2.toks + 1) M (I2.tok (s2.toks + 1)) (fun b u hb z => (Heap.get?_update_other _ _ (Ne.symm hb)).trans z) hP3 (fun v z => by cases z)) (sm.trans sm2) (by simp [hacc, strValues]) (by simp [List.take_add_one, ht, hdone])
/-- repr(l), l a list that holds own objects -/
theorem cr_reprL (hr : Room (k + 2) X.A) (hG : X.A.guards = some []) : CallR X (.builtin "repr") (fun xs H Q => ∃ (l m C dx : Addr) (L : List V) (ts : List Str) (fs : List (Str × V)), xs = [.ref l] ∧ H l = some (.lst L) ∧ V.ref m ∈ L ∧ H m = some (.ins C dx fs) ∧ ts.length = L.length ∧
    (∀ (i : Nat) x t, L[i]? = some x → ts[i]? = some t → ReprStep X k H x t) ∧ (listText ts).length ≤ sizeLine ∧ ∀ H', Same H H' → Q (.str (listText ts)) H') := by
  intro pins s σ H xs us Q I r h
  obtain ⟨l, m, C, dx, L, ts, fs, rfl, hl, hm, hmi, hlen, hT, hz, q⟩ := h
  rw [Vals.ref1 r]
  obtain ⟨_, its, na, rv, ho⟩ := I.hok _ _ hl
  have hu := hr.units
  refine call_repr_slot (by omega) (T := "list") (idr := "list.__repr__") ⟨_, ho, rfl⟩ F.slot_list_repr.toG ?_
  refine wpAny_call (codeAny_call_builtin F.slot_list_repr.plain F.entry_list_repr (F.slot_list_repr.check _ _ _ _ _ _ _ _ ⟨_, ho, rfl⟩ (F.args_list_repr_1 _) ?_))
  cases its with
  | nil => exact absurd (vals_mem rv hm) (by simp)
  | cons x ls =>
    have hA : AIn X (k + 1) [] X.A.in1 := (AIn.base hr hG).in1
    refine wpAny_list_repr_head (A := X.A.in1.in1) (g := []) (b := 0) hG (fun v rest kw hm => nomatch hm) ho rfl ?_
    refine wpAny_bind (m := newList []) (wpAny_newObj_type ?_)
    refine wpAny_pure ⟨F.quiet_list_repr_loop _, ?_⟩
    have I2 := ClX.pin_new (t' := s.toks) (o := lstO #[] 0) I (fun b u e => Heap.get?_push_of_some _ e) (Nat.le_refl _) (Heap.get?_push_size s.heap (o := lstO #[] 0) rfl) (fun v z => by cases z)
    refine reprL_loop (base := 0) (R := fun r s' => _) hA (GOk.nil H) hl hm hmi hlen hT (by omega) (Mine.of I (Nat.le_refl _)) (fun H' s' u I' sm => ?_) _ 0 _ H #[] _ [] rfl (Nat.zero_le _) I2 (Same.refl _) rfl (by simp)
    exact ⟨_, u, rfl, .str _, H', I', ⟨u, rfl⟩, q H' sm⟩
/-- {e!r}, e a list of data, while reprs are under way -/
def tFmtRH (K : PySem.W.Frag) (g : List Code) (te : TE) : TE := fun σ H Q => te σ H fun x H1 => ∃ (a : Addr) (d : PyData), x = .ref a ∧ Dp K H1 x d ∧ (∃ e es, d = .list (e :: es)) ∧ GOk H1 g ∧ d.showable = true ∧ d.shown.length ≤ sizeLine ∧ d.depth ≤ 50 ∧ Q (.str d.shown) H1
theorem pe_fmtRH {e : Expr} {te : TE} {pos : Pos} (hr : Room k X.A) (hG : X.A.guards = some g) (he : PE X e te) : PE X (.FormattedValue e 114 none pos) (tFmtRH X.K g te) := by
  refine ⟨fun pins s σ H Q I h => ?_⟩
  refine wpAny_FormattedValue_repr (thn (he.run pins s σ H _ I h) fun v s1 hv => ?_)
  obtain ⟨x, H1, I1, r1, a, d', rfl, hd, ⟨d, ds, rfl⟩, hgo, hs, hz, hdp, q⟩ := hv
  cases r1
  have hu := hr.units
  obtain ⟨as, hR⟩ := Dp.reads I1 _ (.ref a) (.ref a) hd rfl
  have hcl : ∀ {b : Addr} {d' : PyData} {as' : List Addr}, Reads s1.heap (.ref b) d' as' → Clear g b := fun r => gok_clear I1 hgo r
  have hR0 := hR
  have hnd := dp_noDict (K := X.K) (H := H1) hd
  cases hR with
  | @list _ o vs n _ bs0 h1 h2 h3 h4 =>
    obtain ⟨lv⟩ := vs
    cases lv with
    | nil => cases h4
    | cons y ys =>
      have hz' : (listText (PyData.shownAll (d :: ds))).length ≤ sizeLine := by simpa only [PyData.shown] using hz
      obtain ⟨bs, hb, hk⟩ := ReprAllK.of_readsAll (prog := X.prog) (w := X.w) h4 (by simpa [PyData.showable] using hs) (fun hx => absurd hx (by
        have : PyData.hasDictAll (d :: ds) = false := by simpa [PyData.hasDict] using hnd
        rw [this]; decide)) (fun t ht => Nat.le_trans (listText_mem_le ht) hz')
      have hna : a ∉ bs := not_mem_of_deeper hR0 (by simp only [PyData.depth]; omega) hb
      have hdd : PyData.depthAll (d :: ds) + 1 ≤ 50 := by simpa [PyData.depth] using hdp
      refine wpAny_pyReprObj_listK h1 h2 h3 hna (by simpa using hk.length_eq) (fun i y e => hk.item i y (by simpa using e)) hG (fun b hbm => ?_) (by omega) (fun _ _ e => e) (fun h' t tk hk' => ?_) hz'
      · rcases List.mem_cons.mp hbm with rfl | hbm
        · exact hcl hR0
        · obtain ⟨d', as', r', _⟩ := hb b hbm
          exact hcl r'
      · have hsh : (PyData.list (d :: ds)).shown = listText (PyData.shownAll (d :: ds)) := by simp only [PyData.shown]
        rw [← hsh]
        exact wpAny_formatField_str ⟨.str _, H1, I1.kept hk', ⟨_, rfl⟩, q⟩ ⟨.str _, H1, (I1.kept hk').tok _, ⟨_, rfl⟩, q⟩ hz
end
end L3
/-! Own error classes: all that is known of one, in one word. -/
namespace L3
open PySem PySem.Spec PyProof.Rows L2
/-- the text of an __init__ with one field -/
def Bd1 (scope : Scope) (body : List Stmt) (x f : Str) : Prop := ∃ txt kk p0 p1 p2 p3 p4 p5 q1 q2 q3 q4, body = [.Expr (supE txt kk p0 p1 p2 p3 p4) p5, .Assign [.Attribute (.Name "self" q1) f q2] (.Name x q3) q4] ∧ SupOk scope txt kk p0 p1 p2 p3 p4 ∧ Sto scope x f q1 q2 q3 q4
def Bd2 (scope : Scope) (body : List Stmt) (x f y f2 : Str) : Prop := ∃ txt kk p0 p1 p2 p3 p4 p5 q1 q2 q3 q4 r1 r2 r3 r4, body = [.Expr (supE txt kk p0 p1 p2 p3 p4) p5, .Assign [.Attribute (.Name "self" q1) f q2] (.Name x q3) q4, .Assign [.Attribute (.Name "self" r1) f2 r2] (.Name y r3) r4] ∧
  SupOk scope txt kk p0 p1 p2 p3 p4 ∧ Sto scope x f q1 q2 q3 q4 ∧ Sto scope y f2 r1 r2 r3 r4
/-- an error class with one field -/
def Er1 (P : Program) (K : PySem.W.Frag) (mg : Str → Option Value) (C : Addr) (x f : Str) : Prop := ∃ fI B newId initId bmB params body scope, ErrT P K mg C fI B newId initId bmB ["self", x] params body scope ∧ Bd1 scope body x f ∧ PySem.W.findIn K (.ref C) f = some none
def Er2 (P : Program) (K : PySem.W.Frag) (mg : Str → Option Value) (C : Addr) (x f y f2 : Str) : Prop := ∃ fI B newId initId bmB params body scope, ErrT P K mg C fI B newId initId bmB ["self", x, y] params body scope ∧ Bd2 scope body x f y f2 ∧ PySem.W.findIn K (.ref C) f = some none ∧ PySem.W.findIn K (.ref C) f2 = some none
section
variable {X : Cx} {C : Addr} {cn x f y f2 : Str} {W : WX} {p pos pos2 : Pos} {e e2 : Expr} {ta : TA}
/-- raise C(e) -/
theorem ps_raise1 (hc : X.calm = true) (T : Er1 X.prog X.K X.mg C x f) (hr : Room 1 X.A) (tk : Takes X W) (hm : X.mg cn = some (.ref C)) (ha : PA X [e] ta) (hg : Gl X cn := by rfl) (hdb : (cn == ("__debug__" : Str)) = false := by decide) (he : starEach [e] X.env = (false, eval e X.env) :: starEach [] X.env := by rfl) :
    PS X (.Raise (some (.Call (.Name cn p) [e] [] pos)) none pos2) (fun _ σ H => tMk1 C f ta σ H fun cls d H' => W cls d σ H') := by
  obtain ⟨fI, B, newId, initId, bmB, params, body, scope, T, ⟨txt, kk, p0, p1, p2, p3, p4, p5, q1, q2, q3, q4, hb, hev, D⟩, hfn⟩ := T
  exact ps_raise hc tk (pmk_err1 T hev D hfn hb hr hg hm ha hdb he)
theorem ps_raise2 (hc : X.calm = true) (T : Er2 X.prog X.K X.mg C x f y f2) (hr : Room 1 X.A) (tk : Takes X W) (hm : X.mg cn = some (.ref C)) (ha : PA X [e, e2] ta) (hg : Gl X cn := by rfl) (hdb : (cn == ("__debug__" : Str)) = false := by decide) (he : starEach [e, e2] X.env = (false, eval e X.env) :: starEach [e2] X.env := by rfl)
    (hpl : (backTo pos (starEach [e2] X.env)).any (·.1) = false := by rfl) :
    PS X (.Raise (some (.Call (.Name cn p) [e, e2] [] pos)) none pos2) (fun _ σ H => tMk2 C f f2 ta σ H fun cls d H' => W cls d σ H') := by
  obtain ⟨fI, B, newId, initId, bmB, params, body, scope, T, ⟨txt, kk, p0, p1, p2, p3, p4, p5, q1, q2, q3, q4, r1, r2, r3, r4, hb, hev, D, D2⟩, hfn, hfn2⟩ := T
  exact ps_raise hc tk (pmk_err2 T hev D D2 hfn hfn2 hb hr hg hm ha hdb he hpl)
end
/-- how ErrF is shown -/
theorem errF_mk {P : Program} {K : PySem.W.Frag} {mg : Str → Option Value} {C fI pr : Addr} {B newId initId : String} {bmB : List Value} {ps : List Str} {params : Arguments} {body : List Stmt} {scope : Scope}
    {nm q : Str} {N : Addr} {bs : List Value} {sn : List Str} {sub : List Value} {ab : Bool} {col : Option Bool} {dd : Option Addr} {k0 k1 k2 k3 k5 : Option Value}
    {qual : Str} {dV kV doc pm ct oc ccl cl : Value} {an od cdd cld : Option Addr} {cda cc : Addr} {osl ccs csl : Array (Option Value)} {vs : Array Value} {file : Str} {tf : Tok}
    (bf : ExcBaseFacts B newId initId bmB) (sf : PySem.W.KxsFacts B initId) (obj : bmB.contains (.type "object") = true) (pass : ∀ self : Value, refuseLoop self "__setattr__" bmB = pure ())
    (lc : K.lookup C = some (excClassObj nm q C N bs (.ref pr :: bmB) true sn sub ab col dd k0 k1 k2 k3 k5 newId))
    (li : K.lookup fI = some ⟨oc, od, .func (PySem.W.ksFn "__init__" qual params body scope dV kV doc pm an (.ref cda) ct cc), osl⟩) (ei : PySem.W.codeIn K (.ref cda) qual = true)
    (lk : K.lookup cda = some ⟨ccl, cdd, .fields vs, ccs⟩) (v2 : vs[2]? = some (.str file tf)) (fl : ((P.main.file : Str) == file) = true) (lcc : K.lookup cc = some ⟨cl, cld, .cell (some (.ref C)), csl⟩)
    (hb : ∀ s us, us.length = ps.length → BindsTo s (PySem.W.ksFn "__init__" qual params body scope dV kV doc pm an (.ref cda) ct cc) ⟨us, []⟩ (ps.zip us))
    (su : PySem.W.ks_superIn K C C "__init__" = some (some (.builtin initId))) (se : PySem.W.mroIn K C (.ref C) = some true) (sb : PySem.W.subIn K (.ref C) (.type B) = some true) (op : PySem.W.nsIn K cStatics "thirdparty.any" = some none)
    (gl : mg "super" = none) (tp : (P.main.scope.names.lookup ("super" : Str)).isSome = false) (sa : PySem.W.findIn K (.ref C) "__setattr__" = some (some (.builtin "object.__setattr__"))) (ii : PySem.W.findIn K (.ref C) "__init__" = some (some (.ref fI)))
    (ti : PySem.W.typeIn K (.ref fI) = some (.type "function")) (kc : PySem.W.keepIn K (.ref C) = true) (ex : PySem.W.subIn K (.ref C) (.type "BaseException") = some true) (ty : PySem.W.typeIn K (.ref C) = some (.type "type")) :
    ErrF P K mg C fI B newId initId bmB ps params body scope := by
  refine ⟨bf, obj, sf, ⟨nm, q, N, bs, .ref pr :: bmB, sn, sub, ab, col, dd, k0, k1, k2, k3, k5, lc, fun X => ?_, fun self => ?_⟩, ⟨qual, dV, kV, doc, pm, an, cda, ct, cc, oc, od, osl, vs, file, tf, ccl, cdd, ccs, cl, cld, csl, li, ei, lk, v2, fl, lcc, hb⟩, su, se, sb, op, gl, tp, sa, ii, ti, kc, ex, ty⟩
  · rw [List.contains_cons]; rfl
  · rw [refuseLoop_ref, refuseLoop_ref]; exact pass self
end L3
/-! Own error classes called with keywords. -/
namespace L3
open PySem PySem.Spec PyProof.Rows L2 Builtin Builtin.ObjectAttr
section
variable {M : Model} {A : Around} {E : Value → Shared → Prop} {hp : Heap} {gs : Array GenState} {dr : Drawn} {tk : Nat} {os : OsState}
variable {nm qn : Str} {C N : Addr} {bs bm bmB : List Value} {hdct : Bool} {sn : List Str} {sub : List Value} {ab : Bool} {col : Option Bool} {dd : Option Addr} {k0 k1 k2 k3 k5 : Option Value} {B newId initId : String} {kw : List (Str × Value)}
theorem ek_check_call {Q : Unit → Shared → Prop} (cls : hp.get? C = some (excClassObj nm qn C N bs bm hdct sn sub ab col dd k0 k1 k2 k3 k5 newId)) (done : Q () ⟨hp, gs, dr, tk, os⟩) :
    wpAny M A (checkBuiltinCall "type.__call__" ⟨[.ref C], kw⟩) Q E ⟨hp, gs, dr, tk, os⟩ := by
  have g3 := tc_sub
  have ty : (⟨hp, gs, dr, tk, os⟩ : Shared).TypeIs (.ref C) "type" := ⟨_, cls, rfl⟩
  simp only [checkBuiltinCall, tc_split, tc_kind]
  repeat (any_goals (first
    | assumption
    | with_reducible refine wpAny_loadPart_at cls ?_
    | with_reducible refine wpAny_onRaise ?_
    | with_reducible refine wpAny_map ?_
    | wp_step))
theorem ek_check_new (F : ExcBaseFacts B newId initId bmB) (hT : ∀ X : String, bm.contains (.type X) = bmB.contains (.type X)) {Q : Unit → Shared → Prop}
    (cls : hp.get? C = some (excClassObj nm qn C N bs bm hdct sn sub ab col dd k0 k1 k2 k3 k5 newId)) (done : Q () ⟨hp, gs, dr, tk, os⟩) : wpAny M A (checkBuiltinCall newId ⟨[.ref C], kw⟩) Q E ⟨hp, gs, dr, tk, os⟩ := by
  have isB : (Value.ref C :: bm).contains (.type B) = true := by
    rw [List.contains_cons, hT, F.hasB, Bool.or_true]
  have ns := F.noStar
  simp only [checkBuiltinCall, F.newSplit, F.newKind, F.newRow]
  repeat (first
    | refine wpAny_loadPart_at cls ?_
    | (refine wpAny_isSubtype_exc cls ?_; rw [isB])
    | refine wpAny_staticBase_exc cls ?_
    | refine wpAny_madeBy_exc cls ?_
    | simp only [bne_self_eq_false, if_false, Bool.false_eq_true]
    | wp_step)
  exact done
end
section
variable {P : Program} {w : World} {A : Around} {E : Value → Shared → Prop} {R : Result → Shared → Prop} {hp : Heap} {gs : Array GenState} {dr : Drawn} {tk : Nat} {os : OsState}
variable {nm qn : Str} {C N : Addr} {bs bm bmB : List Value} {hdct : Bool} {sn : List Str} {sub : List Value} {ab : Bool} {col : Option Bool} {dd : Option Addr} {k0 k1 k2 k3 k5 : Option Value} {B newId initId : String} {kw : List (Str × Value)}
theorem ek_new (F : ExcBaseFacts B newId initId bmB) (hT : ∀ X : String, bm.contains (.type X) = bmB.contains (.type X))
    (cls : hp.get? C = some (excClassObj nm qn C N bs bm hdct sn sub ab col dd k0 k1 k2 k3 k5 newId))
    (done : R (.ok (.ret (.ref (hp.objs.size + 1)))) ⟨(hp.push (PySem.W.kdv_tup [])).push (PySem.HandSPX.excO C hp.objs.size), gs, dr, tk, os⟩) :
    codeAny (model P w) A (.builtin newId ⟨[.ref C], kw⟩) R ⟨hp, gs, dr, tk, os⟩ := by
  have en := F.ends
  have isB : (Value.ref C :: bm).contains (.type B) = true := by
    rw [List.contains_cons, hT, F.hasB, Bool.or_true]
  have notA : (Value.ref C :: bm).contains (.type "AttributeError") = false := by
    rw [List.contains_cons, hT, F.noAttr]
    rfl
  have notN : (Value.ref C :: bm).contains (.type "NameError") = false := by
    rw [List.contains_cons, hT, F.noName]
    rfl
  refine codeAny_builtinAt F.entry ?_
  unfold Builtin.«BaseException.__new__»
  refine PySem.wpAt_bind ?_
  show PySem.wpAt _ _ _ (stack >>= _) _ _ _
  refine PySem.wpAt_bind (PySem.wpAt_stack fun pp bb => PySem.wpAt_of_wpAny ?_)
  wp_walk
  refine PySem.wpAt_of_wpAny ?_
  rw [F.owner]
  repeat (first
    | with_reducible refine wpAny_madeHere_exc F.canon cls ?_
    | with_reducible refine wpAny_loadPart_at cls ?_
    | (with_reducible refine wpAny_isSubtype_exc cls ?_; first | rw [isB] | rw [notA] | rw [notN])
    | wp_step)
  show R _ _
  rw [Heap.size_push]
  exact done
theorem ek_made (F : ExcBaseFacts B newId initId bmB) (hT : ∀ X : String, bm.contains (.type X) = bmB.contains (.type X)) {fI : Addr} {Q : Fin → Shared → Prop}
    (cls : hp.get? C = some (excClassObj nm qn C N bs bm hdct sn sub ab col dd k0 k1 k2 k3 k5 newId)) (ini : PySem.W.Looks (model P w) hp (typeLookup (.ref C) "__init__") (some (.ref fI))) (bnd : ∀ self, PySem.W.Looks (model P w) hp (bindSpecial (.ref fI) self) (.ref fI, [self]))
    (done : codeAny (model P w) A (.call (.ref fI) ⟨[.ref (hp.objs.size + 1)], kw⟩)
      (fun r s' => match r with | .ok (.ret v) => v = .none ∧ Q (.done (.ret (.ref (hp.objs.size + 1)))) s' | .ok _ => False | .error e => E e s')
      ⟨(hp.push (PySem.W.kdv_tup [])).push (PySem.HandSPX.excO C hp.objs.size), gs, dr, tk, os⟩) :
    wpAny (model P w) A (Builtin.«type.__call__» ⟨[.ref C], kw⟩) Q E ⟨hp, gs, dr, tk, os⟩ := by
  repeat (first
    | with_reducible refine wpAny_loadPart_at cls ?_
    | with_reducible refine wpAny_madeBy_exc cls ?_
    | wp_step)
  refine codeAny_call_builtin_code (Code.quiet_builtin _ F.quiet) (ek_check_new F hT cls ?_)
  refine ek_new F hT cls ?_
  show wpAny _ _ _ _ _ _
  have kp : ∀ b o, hp.get? b = some o → ((hp.push (PySem.W.kdv_tup [])).push (PySem.HandSPX.excO C hp.objs.size)).get? b = some o := fun b o z => Heap.get?_push_of_some _ (Heap.get?_push_of_some _ z)
  have cls2 := kp _ _ cls
  have got : ((hp.push (PySem.W.kdv_tup [])).push (PySem.HandSPX.excO C hp.objs.size)).get? (hp.objs.size + 1) = some (PySem.HandSPX.excO C hp.objs.size) := by heap_get
  have self : (Value.ref C :: bm).contains (.ref C) = true := by simp
  have ini2 := ini.keeps kp
  have bnd2 := (bnd (.ref (hp.objs.size + 1))).keeps kp
  unfold isInstance
  repeat (first
    | with_reducible refine wpAny_loadPart_at got ?_
    | (with_reducible refine wpAny_isSubtype_exc cls2 ?_; rw [self])
    | wp_step)
  show wpAny _ _ (typeLookup (.ref C) _) _ _ _
  refine ini2.at ?_
  refine wpAny_holding (wpAny_bind (bnd2.at ?_))
  refine wpAny_bind (wpAny_call (codeAny_mono done fun r s' z => ?_))
  match r, z with
  | .error _, z => exact z
  | .ok (.ret v), z =>
    obtain ⟨rfl, z⟩ := z
    first
      | exact wpAny_pure (wpAny_pure z)
      | (wp_walk; exact z)
  | .ok .next, z => exact z.elim
  | .ok .brk, z => exact z.elim
  | .ok .cont, z => exact z.elim
theorem ek_call (F : ExcBaseFacts B newId initId bmB) (hT : ∀ X : String, bm.contains (.type X) = bmB.contains (.type X)) {fI : Addr}
    (cls : hp.get? C = some (excClassObj nm qn C N bs bm hdct sn sub ab col dd k0 k1 k2 k3 k5 newId)) (ini : PySem.W.Looks (model P w) hp (typeLookup (.ref C) "__init__") (some (.ref fI))) (bnd : ∀ self, PySem.W.Looks (model P w) hp (bindSpecial (.ref fI) self) (.ref fI, [self]))
    (done : codeAny (model P w) (A.under (.builtin "type.__call__" ⟨[.ref C], kw⟩)) (.call (.ref fI) ⟨[.ref (hp.objs.size + 1)], kw⟩) (PySem.W.InitBack (hp.objs.size + 1) R)
      ⟨(hp.push (PySem.W.kdv_tup [])).push (PySem.HandSPX.excO C hp.objs.size), gs, dr, tk, os⟩) :
    codeAny (model P w) A (.call (.ref C) ⟨[], kw⟩) R ⟨hp, gs, dr, tk, os⟩ := by
  have g1 := tc_lookup
  have g2 := tc_bind (.ref C)
  have ty : (⟨hp, gs, dr, tk, os⟩ : Shared).TypeIs (.ref C) "type" := ⟨_, cls, rfl⟩
  refine codeAny_of_tree ?_
  show wpAny _ _ (callAny (.ref C) _) _ _ _
  repeat (any_goals (first
    | assumption
    | with_reducible refine wpAny_loadPart_at cls ?_
    | wp_step))
  refine ⟨rfl, ?_⟩
  refine codeAny_call_builtin_at (Code.quiet_builtin _ (by decide +kernel)) entry_typeCall (ek_check_call cls (ek_made F hT cls ini bnd ?_))
  refine codeAny_mono done fun r s' z => ?_
  rcases r with e | (v | _ | _ | _) <;> exact z
end
end L3
/-! Own error classes called with keywords: runs of __init__, C(f = x). -/
namespace L3
open PySem PySem.Spec PyProof.Rows L2 Builtin Builtin.ObjectAttr
section
variable {P : Program} {w : World} {A : Around} {E : Value → Shared → Prop} {K : PySem.W.Frag} {mg : Str → Option Value} {C fI : Addr} {B newId initId : String} {bmB : List Value} {ps : List Str} {params : Arguments} {body : List Stmt} {scope : Scope}
variable {R : Result → Shared → Prop} {s : Shared} {e t0 : Addr} {p0 p1 p2 p3 p4 p5 q1 q2 q3 q4 r1 r2 r3 r4 : Pos} {kk : Nat} {txt x f y f2 : Str} {v u : Value}
theorem err_init1K {body : List Stmt} (T : ErrF P K mg C fI B newId initId bmB ["self", x] params body scope) (S : ErrS ["self", x] params scope) (hev : SupOk scope txt kk p0 p1 p2 p3 p4) (D : Sto scope x f q1 q2 q3 q4) (hfn : PySem.W.findIn K (.ref C) f = some none)
    (hbody : body = [.Expr (supE txt kk p0 p1 p2 p3 p4) p5, .Assign [.Attribute (.Name "self" q1) f q2] (.Name x q3) q4]) (hnd : ∀ oc od fd osl, K.lookup fI = some ⟨oc, od, .func fd, osl⟩ → fd.defaults = .none) (hkw : ∀ (qual : Str) (kV doc pm : Value) (an : Option Addr) (cda ct : Value) (cc : Addr) (s : Shared) (e v : Value), BindsTo s (PySem.W.ksFn "__init__" qual params body scope .none kV doc pm an cda ct cc) ⟨[e], [(x, v)]⟩ [(("self" : Str), e), (x, v)]) (hroom : A.depth < recursionLimit) (W : ErrW K mg s.heap) (hlim : s.heap.NoLimit) (n0 : K.lookup e = none) (n1 : e ≠ mainGlobals) (n2 : e ≠ builtinsNs)
    (he : s.heap.get? e = some (erO C t0 none)) (h : ∀ s', ErrEnd C e (fun z => if z = f then some v else none) s s' → R (.ok (.ret .none)) s') : codeAny (model P w) A (.call (.ref fI) ⟨[.ref e], [(x, v)]⟩) R s := by
  subst hbody
  obtain ⟨qual, dV, kV, doc, pm, an, cda, ct, cc, oc, od, osl, vs, file, tf, ccl, cdd, ccs, cl, cld, csl, hf, hcd, hc, hv, hfl, hcc, hbd⟩ := T.fn
  have hd0 : dV = Value.none := hnd _ _ _ _ hf
  subst hd0
  have hb := hkw qual kV doc pm an (.ref cda) ct cc s (.ref e) v
  have hself := S.loc "self" (List.mem_of_head? S.hd)
  have hne : ("self" : Str) ≠ x := by
    have := S.nd
    rw [List.nodup_cons] at this
    exact fun z => this.1 (by rw [z]; exact List.mem_cons_self)
  refine ks_codeAny_call_defAt (fd := PySem.W.ksFn "__init__" qual params _ scope .none kV doc pm an (.ref cda) ct cc) (binds := [(("self" : Str), .ref e), (x, v)]) hroom (W.kin _ _ hf) rfl hlim (PySem.W.codeRec_of W.kin hcd) rfl hb S.cell (fun z hz => ?_) (fun h0 hns hk => ?_) S.co S.gn S.knd
  · rcases List.mem_cons.mp hz with rfl | hz
    · exact hself
    · rw [List.mem_singleton.mp hz]; exact D.loc
  have W0 := W.keeps hk
  have hL : s.heap.objs.size ≠ e := Nat.ne_of_gt (Heap.lt_size he)
  have m1 : ([(("self" : Str), Value.ref e), (x, v)].reverse.lookup ("self" : Str)) = some (.ref e) := by
    show List.lookup _ [(x, v), (("self" : Str), Value.ref e)] = _
    rw [List.lookup_cons, show (("self" : Str) == x) = false from beq_eq_false_iff_ne.mpr hne]
    simp
  have m2 : ([(("self" : Str), Value.ref e), (x, v)].reverse.lookup x) = some v := by
    show List.lookup _ [(x, v), (("self" : Str), Value.ref e)] = _
    rw [List.lookup_cons, beq_self_eq_true]
  refine ks_wpAt_execs_cons (sup_stmt (s := { s with heap := h0, toks := _ }) T S W0 hev hf hc hv hfl hcc hns m1 (hk _ _ he) fun h1 tk1 t1 k1 e1 => ?_)
  have W1 := W0.but n0 n1 n2 k1
  have hns1 := hns.at fun o z => k1 _ o hL z
  refine ks_wpAt_execs_cons (sto_new (s := { s with heap := h1, toks := tk1 }) T S W1.kin hns1 m1 m2 hself D.loc D.db hfn e1 (D.sw _ _ _ _ _) fun h2 tk2 dx k2 dn dne e2 hd => ?_)
  refine wpAt_of_wpAny (wpAny_execs_nil ?_)
  refine h _ ⟨fun b o hb z => k2 b o hb (k1 b o hb (hk b o z)), ⟨t1, dx, e2, hd, ?_, dne⟩, rfl, rfl⟩
  exact Nat.le_trans (Nat.le_of_lt hns1.lt) dn
theorem err_init2K {body : List Stmt} (T : ErrF P K mg C fI B newId initId bmB ["self", x, y] params body scope) (S : ErrS ["self", x, y] params scope) (hev : SupOk scope txt kk p0 p1 p2 p3 p4) (D : Sto scope x f q1 q2 q3 q4) (D2 : Sto scope y f2 r1 r2 r3 r4) (hfn : PySem.W.findIn K (.ref C) f = some none) (hfn2 : PySem.W.findIn K (.ref C) f2 = some none)
    (hbody : body = [.Expr (supE txt kk p0 p1 p2 p3 p4) p5, .Assign [.Attribute (.Name "self" q1) f q2] (.Name x q3) q4, .Assign [.Attribute (.Name "self" r1) f2 r2] (.Name y r3) r4]) (hnd : ∀ oc od fd osl, K.lookup fI = some ⟨oc, od, .func fd, osl⟩ → fd.defaults = .none) (hkw : ∀ (qual : Str) (kV doc pm : Value) (an : Option Addr) (cda ct : Value) (cc : Addr) (s : Shared) (e v u : Value), BindsTo s (PySem.W.ksFn "__init__" qual params body scope .none kV doc pm an cda ct cc) ⟨[e], [(y, u), (x, v)]⟩ [(("self" : Str), e), (x, v), (y, u)]) (hroom : A.depth < recursionLimit) (W : ErrW K mg s.heap) (hlim : s.heap.NoLimit) (n0 : K.lookup e = none) (n1 : e ≠ mainGlobals) (n2 : e ≠ builtinsNs)
    (he : s.heap.get? e = some (erO C t0 none)) (h : ∀ s', ErrEnd C e (fun z => if z = f2 then some u else if z = f then some v else none) s s' → R (.ok (.ret .none)) s') : codeAny (model P w) A (.call (.ref fI) ⟨[.ref e], [(y, u), (x, v)]⟩) R s := by
  subst hbody
  obtain ⟨qual, dV, kV, doc, pm, an, cda, ct, cc, oc, od, osl, vs, file, tf, ccl, cdd, ccs, cl, cld, csl, hf, hcd, hc, hv, hfl, hcc, hbd⟩ := T.fn
  have hd0 : dV = Value.none := hnd _ _ _ _ hf
  subst hd0
  have hb := hkw qual kV doc pm an (.ref cda) ct cc s (.ref e) v u
  have hself := S.loc "self" (List.mem_of_head? S.hd)
  have hne : ("self" : Str) ≠ x := by
    have := S.nd
    rw [List.nodup_cons] at this
    exact fun z => this.1 (by rw [z]; exact List.mem_cons_self)
  have hne2 : ("self" : Str) ≠ y := by
    have := S.nd
    rw [List.nodup_cons] at this
    exact fun z => this.1 (by rw [z]; simp)
  have hne3 : x ≠ y := by
    have := S.nd
    rw [List.nodup_cons, List.nodup_cons] at this
    exact fun z => this.2.1 (by rw [z]; simp)
  refine ks_codeAny_call_defAt (fd := PySem.W.ksFn "__init__" qual params _ scope .none kV doc pm an (.ref cda) ct cc) (binds := [(("self" : Str), .ref e), (x, v), (y, u)]) hroom (W.kin _ _ hf) rfl hlim (PySem.W.codeRec_of W.kin hcd) rfl hb S.cell (fun z hz => ?_) (fun h0 hns hk => ?_) S.co S.gn S.knd
  · rcases List.mem_cons.mp hz with rfl | hz
    · exact hself
    · rcases List.mem_cons.mp hz with rfl | hz
      · exact D.loc
      · rw [List.mem_singleton.mp hz]; exact D2.loc
  have W0 := W.keeps hk
  have hL : s.heap.objs.size ≠ e := Nat.ne_of_gt (Heap.lt_size he)
  have m1 : ([(("self" : Str), Value.ref e), (x, v), (y, u)].reverse.lookup ("self" : Str)) = some (.ref e) := by
    show List.lookup _ [(y, u), (x, v), (("self" : Str), Value.ref e)] = _
    rw [List.lookup_cons, show (("self" : Str) == y) = false from beq_eq_false_iff_ne.mpr hne2]
    dsimp only
    rw [List.lookup_cons, show (("self" : Str) == x) = false from beq_eq_false_iff_ne.mpr hne]
    simp
  have m2 : ([(("self" : Str), Value.ref e), (x, v), (y, u)].reverse.lookup x) = some v := by
    show List.lookup _ [(y, u), (x, v), (("self" : Str), Value.ref e)] = _
    rw [List.lookup_cons, show (x == y) = false from beq_eq_false_iff_ne.mpr hne3]
    dsimp only
    rw [List.lookup_cons, beq_self_eq_true]
  have m3 : ([(("self" : Str), Value.ref e), (x, v), (y, u)].reverse.lookup y) = some u := by
    show List.lookup _ [(y, u), (x, v), (("self" : Str), Value.ref e)] = _
    rw [List.lookup_cons, beq_self_eq_true]
  refine ks_wpAt_execs_cons (sup_stmt (s := { s with heap := h0, toks := _ }) T S W0 hev hf hc hv hfl hcc hns m1 (hk _ _ he) fun h1 tk1 t1 k1 e1 => ?_)
  have W1 := W0.but n0 n1 n2 k1
  have hns1 := hns.at fun o z => k1 _ o hL z
  refine ks_wpAt_execs_cons (sto_new (s := { s with heap := h1, toks := tk1 }) T S W1.kin hns1 m1 m2 hself D.loc D.db hfn e1 (D.sw _ _ _ _ _) fun h2 tk2 dx k2 dn dne e2 hd => ?_)
  have W2 := W1.but n0 n1 n2 k2
  have hns2 := hns1.at fun o z => k2 _ o hL z
  have wi : Within (fun z => if z = f then some v else none) [f] := Within.cons f v Within.nil
  refine ks_wpAt_execs_cons (sto_old (s := { s with heap := h2, toks := tk2 }) T S W2.kin hns2 m1 m3 hself D2.loc D2.db hfn2 e2 hd wi (by show 1 ≤ 1000; decide) (D2.sw _ _ _ _ _) fun h3 tk3 k3 hd3 => ?_)
  refine wpAt_of_wpAny (wpAny_execs_nil ?_)
  have hle := Nat.le_trans (Nat.le_of_lt hns1.lt) dn
  refine h _ ⟨fun b o hb z => k3 b o (fun z2 => absurd (z2 ▸ Heap.lt_size z) (Nat.not_lt.mpr hle)) (k2 b o hb (k1 b o hb (hk b o z))), ⟨t1, dx, k3 _ _ dne.symm e2, hd3, hle, dne⟩, rfl, rfl⟩
end
end L3
/-! calls of defs that may raise where they do not; four parameters by name -/
namespace L3
open PySem PySem.Spec PyProof.Rows L2
theorem passE0 {P : Program} {w : World} {X : Cx} : Passes (L2.CX P w) X E0 := fun _ _ _ _ _ _ _ h => by
  obtain ⟨_, _, _, _, _, _, _, _, _, _, _, _, z⟩ := h
  exact z.elim
def k4 {α : Type} : List α → List α → List α
  | [], [w, v, u, t] => [t, u, v, w]
  | _, _ => []
theorem k4_rel : ∀ {vs : List V} {us : List Value} {zs : List V} {ws : List Value}, Vals vs us → Vals zs ws → Vals (k4 vs zs) (k4 us ws)
  | _, _, _, _, .nil, .nil => .nil
  | _, _, _, _, .nil, .cons _ .nil => .nil
  | _, _, _, _, .nil, .cons _ (.cons _ .nil) => .nil
  | _, _, _, _, .nil, .cons _ (.cons _ (.cons _ .nil)) => .nil
  | _, _, _, _, .nil, .cons r (.cons s (.cons t (.cons u .nil))) => .cons u (.cons t (.cons s (.cons r .nil)))
  | _, _, _, _, .nil, .cons _ (.cons _ (.cons _ (.cons _ (.cons _ _)))) => .nil
  | _, _, _, _, .cons _ _, .nil => .nil
  | _, _, _, _, .cons _ _, .cons _ _ => .nil
/-- f(d = w, c = v, b = u, a = t) for f(a, b, c, d) -/
theorem kb4 {K : PySem.W.Frag} {x a b c d : Str} {st : Stmt} {f : Addr} {fd : FuncData} (F : Fun K x x st f fd)
    (h : ∀ (kV doc pm : Value) (an : Option Addr) (cdv ct w v u t : Value), bindArgs (PySem.W.fnOf x x (defArgs st) (defBody st) (defScope st) .none kV doc pm an cdv ct) ⟨[], [(d, w), (c, v), (b, u), (a, t)]⟩ = pure [(a, t), (b, u), (c, v), (d, w)]) : KBinds K fd [a, b, c, d] [d, c, b, a] k4 k4 := by
  refine ⟨fun s us ws X hl => ?_, k4_rel⟩
  obtain ⟨oc, od, kV, doc, pm, an, cdv, ct, osl, rfl, lk, hcd⟩ := F.ex
  match us, ws, hl with
  | [], [w, v, u, t], _ => exact .of_eq (h kV doc pm an cdv ct w v u t)
end L3
/-! Static methods read off a class; isinstance of a caught error that has fields. -/
namespace L3
open PySem PySem.Spec PyProof.Rows L2
/-- C.m is a static method: its record at p, its def at g -/
structure SMet (K : PySem.W.Frag) (C : Addr) (mc : Value) (m : Str) (p g : Addr) : Prop where
  at_ : PySem.W.findCls K (.ref C) mc m = some (.get (.builtin "staticmethod.__get__") (.ref p) .none (.ref C))
  rc : ∃ rest, PySem.W.recIn K p "staticmethod" = some (.ref g :: rest)
  kp : PySem.W.keepIn K (.ref g) = true
/-- C.m(..), m a static method of the class at C -/
def tSMeth (C : Addr) (sp : Sp) (E : XK) (tc : TE) (ts : TA) : TE := fun σ H Q => tc σ H fun x H1 => x = .ref C ∧ ts σ H1 fun vs H2 => sp vs H2 Q E
def tSMethK (C : Addr) (sp : Sp) (gV : List V → List V → List V) (E : XK) (tc : TE) (ts : TA) : TE := fun σ H Q => tc σ H fun x H1 => x = .ref C ∧ ts σ H1 fun zs H2 => sp (gV [] zs) H2 Q E
section
variable {X : Cx} {CX : CXT} {k : Nat} {C p g : Addr} {mc : Value} {sp : Sp} {E : XK} {o e : Expr} {es : List Expr} {m : Str} {pos apos : Pos} {ta : TE} {t tk : TA} {pl : Sem Bool} {fd : FuncData} {ps ks : List Str} {kws : List Keyword} {gg : List Value → List Value → List Value} {gV : List V → List V → List V}
theorem sm_meth {pins : List (Addr × Obj)} {σ : L2.St} {H : Hp} {s : Shared} {A : Around} {EE : Value → Shared → Prop} {QQ : Value × List Value → Shared → Prop} (I : L2.Inv X pins σ H s) (r : ClX.CRead X.K C mc) (c : SMet X.K C mc m p g) (h : ∀ s', L2.Inv X pins σ H s' → QQ (.ref g, []) s') :
    wpAny (model X.prog X.w) A (getMethod (.ref C) m pl) QQ EE s := by
  obtain ⟨rest, hp⟩ := c.rc
  refine PySem.W.method_cls I.kIn r.ga (PySem.W.cls_bind I.kIn r.rd c.at_ (wpAny_call ?_))
  exact PySem.W.sm_get (s := { s with toks := s.toks + 1 }) I.kIn hp (PySem.W.handed_on rfl (h _ (I.tok _)))
theorem pe_smeth (hC : PE X o ta) (r : ClX.CRead X.K C mc) (c : SMet X.K C mc m p g) (F : FnOk X.prog X.w X.K X.mg X.base CX k g fd ps sp) (room : Room k X.A) (hb : L2.Binds X.K fd ps []) (hx : Passes CX X E) (hargs : PA X (e :: es) t)
    (hs1 : starEach (e :: es) X.env = (false, eval e X.env) :: starEach es X.env := by rfl) (hp1 : (backTo pos (starEach es X.env)).any (·.1) = false := by rfl)
    (hev : eval (.Call (.Attribute o m apos) (e :: es) [] pos) X.env = (do
      let ob ← eval o X.env
      standAt apos.atName
      let (fn, fst) ← holding [ob] (getMethod ob m pl)
      callWith pos fn fst (backTo pos (starEach (e :: es) X.env)) (backToKw pos (keywordEach [] X.env))) := by rfl) :
    PE X (.Call (.Attribute o m apos) (e :: es) [] pos) (tSMeth C sp E ta t) := by
  refine ⟨fun pins s σ H Q I h => PySem.W.methodCall_KW (pl := pl) (thn (hC.run pins s σ H _ I h) fun u s1 ⟨x, H1, I1, rx, ex, q⟩ => ?_) hev⟩
  subst ex
  obtain rfl : u = Value.ref C := rx
  refine sm_meth I1 r c fun s2 I2 => ?_
  refine PySem.W.callWith_K (h₀ := X.base) I.ok.mod.kin c.kp (thn (hargs.run pos pins s2 σ H1 _ I2 q) fun us s3 ⟨vs, H2, I3, rv, q2⟩ => ⟨I3.kIn, ?_⟩) hs1 hp1
  exact run_fn (vs := vs) (dvs := []) F room hb .nil hx I3 rv (by rw [List.append_nil]; exact q2)
theorem pe_smethK (hC : PE X o ta) (r : ClX.CRead X.K C mc) (c : SMet X.K C mc m p g) (F : FnOk X.prog X.w X.K X.mg X.base CX k g fd ps sp) (room : Room k X.A) (hb : KBinds X.K fd ps ks gg gV) (hx : Passes CX X E) (hkw : PK X kws tk)
    (hall : (backToKw pos (keywordEach kws X.env)).all (·.1.isSome) = true := by rfl) (hks : (backToKw pos (keywordEach kws X.env)).filterMap (·.1) = ks := by rfl)
    (hp2 : ((backTo pos (starEach [] X.env)).any (·.1) || (backToKw pos (keywordEach kws X.env)).any (·.1.isNone)) = false := by rfl)
    (hev : eval (.Call (.Attribute o m apos) [] kws pos) X.env = (do
      let ob ← eval o X.env
      standAt apos.atName
      let (fn, fst) ← holding [ob] (getMethod ob m pl)
      callWith pos fn fst (backTo pos (starEach [] X.env)) (backToKw pos (keywordEach kws X.env))) := by rfl) :
    PE X (.Call (.Attribute o m apos) [] kws pos) (tSMethK C sp gV E ta tk) := by
  refine ⟨fun pins s σ H Q I h => PySem.W.methodCall_KW (pl := pl) (thn (hC.run pins s σ H _ I h) fun u s1 ⟨x, H1, I1, rx, ex, q⟩ => ?_) hev⟩
  subst ex
  obtain rfl : u = Value.ref C := rx
  refine sm_meth I1 r c fun s2 I2 => ?_
  refine PySem.W.callWith_KW0 (first := []) (h₀ := X.base) I.ok.mod.kin c.kp hall (thn (hkw.run pos pins s2 σ H1 _ I2 q) fun ws s3 ⟨zs, H2, I3, rz, q2⟩ => ⟨I3.kIn, ?_⟩) hp2
  rw [hks]
  exact run_fnk (us := []) (vs := []) F room hb hx I3 .nil rz q2
end
/-! ### three by name -/
def s3 {α : Type} : List α → List α → List α
  | [], [w, v, u] => [u, v, w]
  | _, _ => []
theorem s3_rel : ∀ {vs : List V} {us : List Value} {zs : List V} {ws : List Value}, Vals vs us → Vals zs ws → Vals (s3 vs zs) (s3 us ws)
  | _, _, _, _, .nil, .nil => .nil
  | _, _, _, _, .nil, .cons _ .nil => .nil
  | _, _, _, _, .nil, .cons _ (.cons _ .nil) => .nil
  | _, _, _, _, .nil, .cons a (.cons b (.cons c .nil)) => .cons c (.cons b (.cons a .nil))
  | _, _, _, _, .nil, .cons _ (.cons _ (.cons _ (.cons _ _))) => .nil
  | _, _, _, _, .cons _ _, .nil => .nil
  | _, _, _, _, .cons _ _, .cons _ _ => .nil
/-- C.m(c = w, b = v, a = u) for a static m(a, b, c) -/
theorem kbs3 {K : PySem.W.Frag} {x qual a b c : Str} {st : Stmt} {f : Addr} {fd : FuncData} (F : Fun K x qual st f fd)
    (h : ∀ (kV doc pm : Value) (an : Option Addr) (cdv ct w v u : Value), bindArgs (PySem.W.fnOf x qual (defArgs st) (defBody st) (defScope st) .none kV doc pm an cdv ct) ⟨[], [(c, w), (b, v), (a, u)]⟩ = pure [(a, u), (b, v), (c, w)]) : KBinds K fd [a, b, c] [c, b, a] s3 s3 := by
  refine ⟨fun s us ws X hl => ?_, s3_rel⟩
  obtain ⟨oc, od, kV, doc, pm, an, cdv, ct, osl, rfl, lk, hcd⟩ := F.ex
  match us, ws, hl with
  | [], [w, v, u], _ => exact .of_eq (h kV doc pm an cdv ct w v u)
def n3 {α : Type} : List α → List α → List α
  | [s], [w, v, u] => [s, v, u, w]
  | _, _ => []
theorem n3_rel {vs : List V} {us : List Value} {zs : List V} {ws : List Value} (r : Vals vs us) (t : Vals zs ws) : Vals (n3 vs zs) (n3 us ws) := by
  cases r with
  | nil => cases t <;> exact .nil
  | cons a r => cases r with
    | cons _ _ => cases t <;> exact .nil
    | nil => cases t with
      | nil => exact .nil
      | cons b t => cases t with
        | nil => exact .nil
        | cons c t => cases t with
          | nil => exact .nil
          | cons d t => cases t with
            | nil => exact .cons a (.cons c (.cons d (.cons b .nil)))
            | cons _ _ => exact .nil
/-- C(r = w, n = v, m = u) for __init__(self, n, m, r) -/
theorem kbr3 {K : PySem.W.Frag} {x qual n m r : Str} {st : Stmt} {f : Addr} {fd : FuncData} (F : Fun K x qual st f fd)
    (h : ∀ (kV doc pm : Value) (an : Option Addr) (cdv ct s w v u : Value), bindArgs (PySem.W.fnOf x qual (defArgs st) (defBody st) (defScope st) .none kV doc pm an cdv ct) ⟨[s], [(r, w), (n, v), (m, u)]⟩ = pure [(("self" : Str), s), (n, v), (m, u), (r, w)]) : KBn K fd ["self", n, m, r] 1 [r, n, m] n3 n3 := by
  refine ⟨fun s us ws X hl hw => ?_, n3_rel⟩
  obtain ⟨oc, od, kV, doc, pm, an, cdv, ct, osl, rfl, lk, hcd⟩ := F.ex
  match us, ws, hl, hw with
  | [a], [w, v, u], _, _ => exact .of_eq (h kV doc pm an cdv ct a w v u)
/-! ### isinstance -/
theorem kit_sub {K : PySem.W.Frag} {C D : Addr} (hd : PySem.W.hasDictIn K D = true) (ht : PySem.W.typeIn K (.ref D) = some (.type "type")) (h : PySem.W.subIn K (.ref C) (.ref D) = some true) : PySem.W.kitOne K (.ref C) (.ref D) = some true := by
  unfold PySem.W.kitOne
  split
  · rfl
  · obtain ⟨cd, hc, _⟩ := PySem.W.any_some hd
    show (if ((PySem.W.clsIn K D).isSome && PySem.W.typeIn K (.ref D) == some (.type "type")) = true then _ else _) = _
    rw [hc, ht, if_pos (by simp)]
    exact h
theorem kit_tyX {K : PySem.W.Frag} {C : Addr} {T : String} (h : PySem.W.subIn K (.ref C) (.type T) = some true) (hm : PySem.W.kitMeta T = true := by decide +kernel) : PySem.W.kitOne K (.ref C) (.type T) = some true := by
  unfold PySem.W.kitOne
  split
  · rfl
  · show (if PySem.W.kitMeta T = true then _ else _) = _
    rw [if_pos hm]
    exact h
section
variable {prog : Program} {w : World} {A : Around} {E : Value → Shared → Prop} {s : Shared} {K : PySem.W.Frag} {x D : Addr} {ox od : Obj}
theorem exc_class {Q : Option Value → Shared → Prop} (C : ExcC K D) (X : K.In s.heap) (I : PySem.W.InstAt s.heap x ox D (some od)) (h : Q (some (.ref D)) { s with toks := s.toks + 1 }) : wpAny (model prog w) A (getAttr? (.ref x) "__class__") Q E s := by
  have hf : PySem.W.findObj K D (some od) "__class__" = some (.bind (.builtin "getset_descriptor.__get__") (.builtin "object.__class__")) := PySem.W.findObj_data (by obtain ⟨cd, hc, _⟩ := PySem.W.any_some C.hd; rw [hc]; rfl) C.ha C.hn C.ht
  obtain ⟨hp, g, d, t, os⟩ := s
  have lT := I.type (M := model prog w)
  have lG := PySem.W.looks_findIn (M := model prog w) X C.hg
  have lK := PySem.W.looks_findIn (M := model prog w) X C.hk
  have lF := PySem.W.looks_find (M := model prog w) X I hf
  have isB : PySem.W.Looks (model prog w) hp (isInstance (.ref x) (.type "BaseException")) true := lT.andThen (PySem.W.looks_subIn X C.hs)
  have b0 : (false && onTheHeap (Value.builtin "BaseException.__getattribute__")) = false := rfl
  have b2 : (Value.builtin "BaseException.__getattribute__" == Value.builtin "object.__getattribute__") = false := by decide +kernel
  have b1 : (onTheHeap (Value.ref D) && Value.builtin "BaseException.__getattribute__" == Value.builtin "object.__getattribute__") = false := by rw [b2]; rfl
  unfold getAttr? getAttrBy? getAttrBy
  refine wpAny_bind (wpAny_mkText (wpAny_bind (wpAny_attempt (wpAny_holding (wpAny_bind (lT.at (wpAny_bind (lG.at ?_))))))))
  show wpAny _ _ (if (onTheHeap (Value.ref D) && Value.builtin "BaseException.__getattribute__" == Value.builtin "object.__getattribute__") = true then _ else _) _ _ _
  rw [b1, if_neg Bool.false_ne_true]
  unfold getAttrByItsOwn hookBefore
  refine wpAny_bind ?_
  rw [if_pos (show onTheHeap (Value.ref D) = true from rfl)]
  refine lK.at (wpAny_bind (wpAny_attempt (wpAny_holding ?_)))
  unfold callGetattribute
  rw [b0, if_neg Bool.false_ne_true]
  unfold boundAndCalled
  rw [PySem.F.excAttr_ValueError.ga.bind (.ref x)]
  refine wpAny_bind (wpAny_pure ?_)
  show wpAny _ _ (call (.builtin "BaseException.__getattribute__") [.ref x, .str "__class__" t]) _ _ _
  refine wpAny_call (codeAny_call_builtin PySem.F.excAttr_ValueError.ga.plain PySem.F.entry_bexc_ga ?_)
  refine @PySem.W.check_slot (model prog w) _ _ ⟨hp, g, d, t + 1, os⟩ "BaseException.__getattribute__" "BaseException" "__getattribute__" (.ref x) [.str "__class__" t] [] _ (by decide +kernel) (by decide +kernel) isB (PySem.F.args_bexc_ga (.ref x) (.str "__class__" t)) ?_
  unfold Builtin.«object.__getattribute__»
  refine wpAny_bind (wpAny_of_eq (a := ((Value.ref x : Value), [Value.str "__class__" t])) (by first | rfl | (simp only [slotArgs]; rfl)) ?_)
  refine wpAny_bind (wpAny_pure (wpAny_bind (lT.at (wpAny_bind (lF.at ?_)))))
  show wpAny _ _ (holding [Value.builtin "object.__class__"] (call (.builtin "getset_descriptor.__get__") [.builtin "object.__class__", .ref x, .ref D]) >>= ret) _ _ _
  refine wpAny_bind (wpAny_holding (wpAny_call (PySem.W.class_get (s := ⟨hp, g, d, t + 1, os⟩) (ox := ox) (od := some od) X I C.hm ?_)))
  refine wpAny_pure ?_
  show wpAny _ _ (handedOut (.ref D)) _ _ _
  rw [PySem.W.handedOut_of (v := .ref D) rfl]
  first
    | exact wpAny_pure (wpAny_pure h)
    | exact wpAny_pure h
    | exact wpAny_pure (wpAny_bind (wpAny_pure (wpAny_pure h)))
theorem kitx_excD (C : ExcC K D) : PySem.W.KitX K (.ref x) (.ref D) (fun h => PySem.W.InstAt h x ox D (some od)) where
  ty := fun _ _ _ I => I.type
  it := fun _ _ X _ => by
    obtain ⟨cdD, hcD, _⟩ := PySem.W.any_some C.hd
    unfold PySem.W.clsIn at hcD
    split at hcD
    · rename_i c1 d1 cd1 sl1 ho
      intro A1 Q1 E1 s1 k q
      unfold isType loadHead
      exact wpAny_bind (wpAny_loadPart (k _ _ (X _ _ ho)) (wpAny_pure q))
    · cases hcD
  ne := fun h tp dd its n sl X htp => by
    obtain ⟨cdD, hcD, _⟩ := PySem.W.any_some C.hd
    refine Bool.eq_false_iff.mpr fun q => ?_
    have e : D = tp := Value.ref.inj (beq_iff_eq.mp q)
    subst e
    unfold PySem.W.clsIn at hcD
    split at hcD
    · rename_i c1 d1 cd1 sl1 ho
      have z := (X _ _ ho).symm.trans htp
      cases z
    · cases hcD
  ca := fun X I k => exc_class C X I k
end
/-- isinstance(e, c), e the error that the suite holds, its fields at dd -/
def rIsD (K : PySem.W.Frag) (cls : Value) (d : Option Addr) (D a : Addr) : List V → Hp → VK → Prop := fun xs H Q => ∃ (c : V) (cv : Value) (b : Bool) (dd : Addr) (fs : List (Str × V)), xs = [.ref a, c] ∧ cls = .ref D ∧ d = some dd ∧ H dd = some (.xd fs) ∧ (∀ u, RelV c u → u = cv) ∧ PySem.W.kitOne K (.ref D) cv = some b ∧ Q (.bl b) H
theorem call_isD {X : Cx} {a D : Addr} {oe : Obj} {cls : Value} {d : Option Addr} {pn : List (Addr × Obj)} (C : ExcC X.K D) (hz : Zc cls d oe) (hf : ∃ vs, oe.data = .fields vs) : CallR (X.suite a ((a, oe) :: pn)) (.builtin "isinstance") (rIsD X.K cls d D a) := by
  intro pins s σ H xs us Q I r h
  obtain ⟨c, cv, b, dd, fs, rfl, rfl, rfl, ea, hcv, e, q⟩ := h
  match us, r with
  | [_, _], .cons rx (.cons rt .nil) =>
    cases rx
    have ec := hcv _ rt
    subst ec
    obtain ⟨hget, _⟩ := I.pin (a, oe) (List.mem_append.mpr (.inl List.mem_cons_self))
    obtain ⟨vs, hv⟩ := hf
    have hx : ObjOk X.prog X.w H s.heap dd (.xd fs) := I.hok dd _ ea
    obtain ⟨mA, hns, hr⟩ := hx
    obtain ⟨od, ho, hl⟩ := lookIn_ns hns
    have J : PySem.W.InstAt s.heap a oe D (some od) := ⟨hget, hz.1, by unfold PySem.W.notCls; rw [hv] <;> rfl, by rw [hz.2]; exact ho⟩
    exact PySem.W.kia_one (kitx_excD C) I.kIn J e (fun z => nomatch z) fun tk => ⟨.bl b, H, I.kept (t' := tk) fun _ _ z => z, rfl, q⟩
end L3
/-! Own errors as values: C(x), C(x, y), C(), C(f = x), C(g = y, f = x); e.f; isinstance(e, D). -/
namespace L3
open PySem PySem.Spec PyProof.Rows L2
/-- an error kept as a value: its class, its dict -/
def evO (C a : Addr) (d : Option Addr) : HO := .ext fun h => ∃ t, h.get? a = some (erO C t d)
theorem evO_ok {P : Program} {w : World} {H : Hp} {h : Heap} {C a t : Addr} {d : Option Addr} (e : h.get? a = some (erO C t d)) : ObjOk P w H h a (evO C a d) :=
  ⟨⟨t, e⟩, ⟨_, e⟩, fun _ _ p k => let ⟨t, e⟩ := p; ⟨t, k _ e⟩⟩
section
variable {X : Cx} {pins : List (Addr × Obj)} {σ : L2.St} {H1 : Hp} {s1 s' : Shared} {C a d t : Addr} {fs : List (Str × V)} {mA : Str → Option Value}
theorem inv_other {G : Heap} {tk : Nat} (I : L2.Inv X pins σ H1 { s1 with heap := G, toks := tk }) (hh : s'.heap = G) (hg : s'.gens = s1.gens) (ho : s'.os = s1.os) : L2.Inv X pins σ H1 s' := by
  obtain ⟨h, g, dr, tk', os⟩ := s'
  dsimp only at hh hg ho
  subst hh hg ho
  exact ⟨I.ok, I.os, I.bare, I.base, I.loc, I.cell, I.free, I.freeC, I.pin, I.hok, I.len⟩
/-- the error and its dict, both tracked -/
theorem ev_inv (I1 : L2.Inv X pins σ H1 s1) (ha : s1.heap.objs.size ≤ a) (hd : s1.heap.objs.size ≤ d) (hda : d ≠ a) (k : ∀ b o, s1.heap.get? b = some o → s'.heap.get? b = some o) (he : s'.heap.get? a = some (erO C t (some d))) (hns : s'.heap.Ns1 d mA) (rel : ∀ f, RelO (fs.lookup f) (mA f))
    (hg : s'.gens = s1.gens) (ho : s'.os = s1.os) : L2.Inv X pins σ (upd (upd H1 d (.xd fs)) a (evO C a (some d))) s' := by
  have nha : ∀ {b : Addr} {o : Obj}, s1.heap.get? b = some o → b ≠ a := fun {b o} z => Nat.ne_of_lt (Nat.lt_of_lt_of_le (Heap.lt_size z) ha)
  have nhd : ∀ {b : Addr} {o : Obj}, s1.heap.get? b = some o → b ≠ d := fun {b o} z => Nat.ne_of_lt (Nat.lt_of_lt_of_le (Heap.lt_size z) hd)
  have nH : ∀ {b : Addr} {o : HO}, H1 b = some o → b ≠ d := fun {b o} z => Nat.ne_of_lt (Nat.lt_of_lt_of_le (I1.hok.lt z) hd)
  have nHa : ∀ {b : Addr} {o : HO}, H1 b = some o → b ≠ a := fun {b o} z => Nat.ne_of_lt (Nat.lt_of_lt_of_le (I1.hok.lt z) ha)
  have U : L2.Un X.fs [] H1 (upd (upd H1 d (.xd fs)) a (evO C a (some d))) s1.heap s'.heap := {
    keep := fun b o z _ _ _ => k b o z
    slot := fun b o z _ _ _ => ⟨o.slots, k b o z⟩
    free := fun b o z n _ => by rw [upd_ne (nha z), upd_ne (nhd z)]; exact n
    there := fun b o z _ => ⟨o, k b o z⟩
    tups := fun b xs z => by rw [upd_ne (nHa z), upd_ne (nH z)]; exact z
    frzs := fun b o v z => by rw [upd_ne (nHa z), upd_ne (nH z)]; exact z
    tbls := fun b ps z => ⟨#[], by rw [upd_ne (nHa z), upd_ne (nH z), z]; simp⟩ }
  refine inv_other (I1.un (t' := s1.toks) U fun b o z => ?_) rfl hg ho
  by_cases hb : b = a
  · subst hb
    rw [upd_same] at z
    cases z
    exact evO_ok he
  · rw [upd_ne hb] at z
    by_cases hb2 : b = d
    · subst hb2
      rw [upd_same] at z
      cases z
      exact ⟨mA, hns, rel⟩
    · rw [upd_ne hb2] at z
      exact (I1.hok b o z).stay (fun c v _ y => k c v y) (fun c hc => by rw [upd_ne (nHa hc), upd_ne (nH hc)]; exact hc) (fun c xs hc => by rw [upd_ne (nHa hc), upd_ne (nH hc)]; exact hc)
theorem ev_inv0 (I1 : L2.Inv X pins σ H1 s1) (ha : s1.heap.objs.size ≤ a) (k : ∀ b o, s1.heap.get? b = some o → s'.heap.get? b = some o) (he : s'.heap.get? a = some (erO C t none)) (hg : s'.gens = s1.gens) (ho : s'.os = s1.os) : L2.Inv X pins σ (upd H1 a (evO C a none)) s' :=
  inv_other (I1.laid (t' := s1.toks) k ha (evO_ok he)) rfl hg ho
end
/-! ### what is known of a class -/
def Kw1 (params : Arguments) (body : List Stmt) (scope : Scope) (x : Str) : Prop := ∀ (qual : Str) (kV doc pm : Value) (an : Option Addr) (cda ct : Value) (cc : Addr) (s : Shared) (e v : Value), BindsTo s (PySem.W.ksFn "__init__" qual params body scope .none kV doc pm an cda ct cc) ⟨[e], [(x, v)]⟩ [(("self" : Str), e), (x, v)]
def Kw2 (params : Arguments) (body : List Stmt) (scope : Scope) (x y : Str) : Prop := ∀ (qual : Str) (kV doc pm : Value) (an : Option Addr) (cda ct : Value) (cc : Addr) (s : Shared) (e v u : Value), BindsTo s (PySem.W.ksFn "__init__" qual params body scope .none kV doc pm an cda ct cc) ⟨[e], [(y, u), (x, v)]⟩ [(("self" : Str), e), (x, v), (y, u)]
/-- no defaults -/
def NoDef (K : PySem.W.Frag) (fI : Addr) : Prop := ∀ oc od fd osl, K.lookup fI = some ⟨oc, od, .func fd, osl⟩ → fd.defaults = .none
def Bd0 (body : List Stmt) (scope : Scope) : Prop := ∃ txt kk p0 p1 p2 p3 p4 p5, body = [.Expr (supE txt kk p0 p1 p2 p3 p4) p5] ∧ SupOk scope txt kk p0 p1 p2 p3 p4
def Ek1 (P : Program) (K : PySem.W.Frag) (mg : Str → Option Value) (C : Addr) (x f : Str) : Prop := ∃ fI B newId initId bmB params body scope, ErrT P K mg C fI B newId initId bmB ["self", x] params body scope ∧ Bd1 scope body x f ∧ PySem.W.findIn K (.ref C) f = some none ∧ NoDef K fI ∧ Kw1 params body scope x
def Ek2 (P : Program) (K : PySem.W.Frag) (mg : Str → Option Value) (C : Addr) (x f y f2 : Str) : Prop := ∃ fI B newId initId bmB params body scope, ErrT P K mg C fI B newId initId bmB ["self", x, y] params body scope ∧ Bd2 scope body x f y f2 ∧ (PySem.W.findIn K (.ref C) f = some none ∧ PySem.W.findIn K (.ref C) f2 = some none) ∧ NoDef K fI ∧ Kw2 params body scope x y
def Ek0 (P : Program) (K : PySem.W.Frag) (mg : Str → Option Value) (C : Addr) : Prop := ∃ fI B newId initId bmB params body scope, ErrT P K mg C fI B newId initId bmB ["self"] params body scope ∧ Bd0 body scope
theorem Ek1.er {P : Program} {K : PySem.W.Frag} {mg : Str → Option Value} {C : Addr} {x f : Str} (T : Ek1 P K mg C x f) : Er1 P K mg C x f := by
  obtain ⟨fI, B, newId, initId, bmB, params, body, scope, h1, h2, h3, _⟩ := T
  exact ⟨fI, B, newId, initId, bmB, params, body, scope, h1, h2, h3⟩
theorem Ek2.er {P : Program} {K : PySem.W.Frag} {mg : Str → Option Value} {C : Addr} {x f y f2 : Str} (T : Ek2 P K mg C x f y f2) : Er2 P K mg C x f y f2 := by
  obtain ⟨fI, B, newId, initId, bmB, params, body, scope, h1, h2, ⟨h3, h4⟩, _⟩ := T
  exact ⟨fI, B, newId, initId, bmB, params, body, scope, h1, h2, h3, h4⟩
section
variable {X : Cx} {C : Addr} {x y f f2 cn : Str} {pins : List (Addr × Obj)} {σ : L2.St} {H1 : Hp} {s1 : Shared} {fI : Addr} {B newId initId : String} {bmB : List Value} {params : Arguments} {body : List Stmt} {scope : Scope} {p0 p1 p2 p3 p4 p5 q1 q2 q3 q4 r1 r2 r3 r4 : Pos} {kk : Nat} {txt : Str}
theorem err_make1K {u : Value} {R : Value → Shared → Prop} {E : Value → Shared → Prop} (T : ErrT X.prog X.K X.mg C fI B newId initId bmB ["self", x] params body scope) (hev : SupOk scope txt kk p0 p1 p2 p3 p4) (D : Sto scope x f q1 q2 q3 q4) (hfn : PySem.W.findIn X.K (.ref C) f = some none)
    (hbody : body = [.Expr (supE txt kk p0 p1 p2 p3 p4) p5, .Assign [.Attribute (.Name "self" q1) f q2] (.Name x q3) q4]) (ndf : NoDef X.K fI) (kw : Kw1 params body scope x) (hr : Room 1 X.A) (I : L2.Inv X pins σ H1 s1)
    (h : ∀ (a t d : Addr) (s' : Shared), s1.heap.objs.size ≤ a → s1.heap.objs.size ≤ d → d ≠ a → (∀ b o, s1.heap.get? b = some o → s'.heap.get? b = some o) → s'.heap.get? a = some (erO C t (some d)) → s'.heap.Ns1 d (fun z => if z = f then some u else none) → s'.gens = s1.gens → s'.os = s1.os → R (.ref a) s') :
    wpAny (model X.prog X.w) X.A (call (.ref C) [] [(x, u)]) R E s1 := by
  obtain ⟨nm, q, N, bs, bm, sn, sub, ab, col, dd, k0, k1, k2, k3, k5, hC, hT, hp⟩ := T.f.cls
  have hsz : s1.heap.objs.size ≤ s1.heap.objs.size + 1 := Nat.le_succ _
  obtain ⟨hp, g, dr, tk, os⟩ := s1
  have kk' : ∀ b o, hp.get? b = some o → ((hp.push (PySem.W.kdv_tup [])).push (PySem.HandSPX.excO C hp.objs.size)).get? b = some o := fun b o e => Heap.get?_push_of_some _ (Heap.get?_push_of_some _ e)
  have hget : ((hp.push (PySem.W.kdv_tup [])).push (PySem.HandSPX.excO C hp.objs.size)).get? (hp.objs.size + 1) = some (erO C hp.objs.size none) := by heap_get
  have W := (errW I).keeps kk'
  have new : ∀ {b : Addr} {o : Obj}, hp.get? b = some o → hp.objs.size + 1 ≠ b := fun {b o} z => Nat.ne_of_gt (Nat.lt_of_lt_of_le (Heap.lt_size z) hsz)
  obtain ⟨og, g1⟩ : ∃ o, hp.get? mainGlobals = some o := by
    obtain ⟨o, _, _, z, _⟩ := (errW I).glob
    exact ⟨o, z⟩
  obtain ⟨ob, g2⟩ : ∃ o, hp.get? builtinsNs = some o := by
    obtain ⟨mb, ⟨o, _, _, z, _⟩, _⟩ := (errW I).blt
    exact ⟨o, z⟩
  refine wpAny_call (ek_call T.f.bf hT (I.kIn _ _ hC) (PySem.W.looks_findIn I.kIn T.f.ini) (fun self => PySem.W.bind_fn I.kIn self T.f.tI) ?_)
  refine err_init1K (s := ⟨_, g, dr, tk, os⟩) (t0 := hp.objs.size) T.f T.s hev D hfn hbody ndf kw (hr.make C [] [(x, u)]).depth W (I.nolimit.keeps kk') ?_ (new g1) (new g2) hget fun s' F => ?_
  · cases z : X.K.lookup (hp.objs.size + 1) with
    | none => rfl
    | some o => exact absurd rfl (new (I.kIn _ _ z))
  · obtain ⟨k, ⟨t, d, h1, h2, h3, h4⟩, hg, ho⟩ := F
    have hlt := Heap.lt_size hget
    exact ⟨rfl, h _ t d s' hsz (Nat.le_trans (Nat.le_of_lt (Nat.lt_of_succ_lt hlt)) h3) h4 (fun b o z => k b o (new z).symm (kk' b o z)) h1 h2 hg ho⟩
theorem err_make2K {u u2 : Value} {R : Value → Shared → Prop} {E : Value → Shared → Prop} (T : ErrT X.prog X.K X.mg C fI B newId initId bmB ["self", x, y] params body scope) (hev : SupOk scope txt kk p0 p1 p2 p3 p4) (D : Sto scope x f q1 q2 q3 q4) (D2 : Sto scope y f2 r1 r2 r3 r4) (hfn : PySem.W.findIn X.K (.ref C) f = some none) (hfn2 : PySem.W.findIn X.K (.ref C) f2 = some none)
    (hbody : body = [.Expr (supE txt kk p0 p1 p2 p3 p4) p5, .Assign [.Attribute (.Name "self" q1) f q2] (.Name x q3) q4, .Assign [.Attribute (.Name "self" r1) f2 r2] (.Name y r3) r4]) (ndf : NoDef X.K fI) (kw : Kw2 params body scope x y) (hr : Room 1 X.A) (I : L2.Inv X pins σ H1 s1)
    (h : ∀ (a t d : Addr) (s' : Shared), s1.heap.objs.size ≤ a → s1.heap.objs.size ≤ d → d ≠ a → (∀ b o, s1.heap.get? b = some o → s'.heap.get? b = some o) → s'.heap.get? a = some (erO C t (some d)) → s'.heap.Ns1 d (fun z => if z = f2 then some u2 else if z = f then some u else none) → s'.gens = s1.gens → s'.os = s1.os → R (.ref a) s') :
    wpAny (model X.prog X.w) X.A (call (.ref C) [] [(y, u2), (x, u)]) R E s1 := by
  obtain ⟨nm, q, N, bs, bm, sn, sub, ab, col, dd, k0, k1, k2, k3, k5, hC, hT, hp⟩ := T.f.cls
  have hsz : s1.heap.objs.size ≤ s1.heap.objs.size + 1 := Nat.le_succ _
  obtain ⟨hp, g, dr, tk, os⟩ := s1
  have kk' : ∀ b o, hp.get? b = some o → ((hp.push (PySem.W.kdv_tup [])).push (PySem.HandSPX.excO C hp.objs.size)).get? b = some o := fun b o e => Heap.get?_push_of_some _ (Heap.get?_push_of_some _ e)
  have hget : ((hp.push (PySem.W.kdv_tup [])).push (PySem.HandSPX.excO C hp.objs.size)).get? (hp.objs.size + 1) = some (erO C hp.objs.size none) := by heap_get
  have W := (errW I).keeps kk'
  have new : ∀ {b : Addr} {o : Obj}, hp.get? b = some o → hp.objs.size + 1 ≠ b := fun {b o} z => Nat.ne_of_gt (Nat.lt_of_lt_of_le (Heap.lt_size z) hsz)
  obtain ⟨og, g1⟩ : ∃ o, hp.get? mainGlobals = some o := by
    obtain ⟨o, _, _, z, _⟩ := (errW I).glob
    exact ⟨o, z⟩
  obtain ⟨ob, g2⟩ : ∃ o, hp.get? builtinsNs = some o := by
    obtain ⟨mb, ⟨o, _, _, z, _⟩, _⟩ := (errW I).blt
    exact ⟨o, z⟩
  refine wpAny_call (ek_call T.f.bf hT (I.kIn _ _ hC) (PySem.W.looks_findIn I.kIn T.f.ini) (fun self => PySem.W.bind_fn I.kIn self T.f.tI) ?_)
  refine err_init2K (s := ⟨_, g, dr, tk, os⟩) (t0 := hp.objs.size) T.f T.s hev D D2 hfn hfn2 hbody ndf kw (hr.make C [] [(y, u2), (x, u)]).depth W (I.nolimit.keeps kk') ?_ (new g1) (new g2) hget fun s' F => ?_
  · cases z : X.K.lookup (hp.objs.size + 1) with
    | none => rfl
    | some o => exact absurd rfl (new (I.kIn _ _ z))
  · obtain ⟨k, ⟨t, d, h1, h2, h3, h4⟩, hg, ho⟩ := F
    have hlt := Heap.lt_size hget
    exact ⟨rfl, h _ t d s' hsz (Nat.le_trans (Nat.le_of_lt (Nat.lt_of_succ_lt hlt)) h3) h4 (fun b o z => k b o (new z).symm (kk' b o z)) h1 h2 hg ho⟩
end
/-! ### expressions -/
def tEv0 (C : Addr) : TE := fun _ H Q => ∀ a, H a = none → Q (.ref a) (upd H a (evO C a none))
def tEv1 (C : Addr) (f : Str) (ta : TA) : TE := fun σ H Q => ta σ H fun vs H1 => ∃ v, vs = [v] ∧ ∀ a d, H1 a = none → H1 d = none → d ≠ a → Q (.ref a) (upd (upd H1 d (.xd [(f, v)])) a (evO C a (some d)))
def tEv2 (C : Addr) (f f2 : Str) (ta : TA) : TE := fun σ H Q => ta σ H fun vs H1 => ∃ v v2, vs = [v, v2] ∧ ∀ a d, H1 a = none → H1 d = none → d ≠ a → Q (.ref a) (upd (upd H1 d (.xd [(f2, v2), (f, v)])) a (evO C a (some d)))
def tEv2K (C : Addr) (f f2 : Str) (ta : TA) : TE := fun σ H Q => ta σ H fun vs H1 => ∃ v v2, vs = [v2, v] ∧ ∀ a d, H1 a = none → H1 d = none → d ≠ a → Q (.ref a) (upd (upd H1 d (.xd [(f2, v2), (f, v)])) a (evO C a (some d)))
section
variable {X : Cx} {C : Addr} {x y f f2 cn : Str} {e e2 : Expr} {kws : List Keyword} {ta : TA} {p pos : Pos}
theorem pe_ev1 (T : Ek1 X.prog X.K X.mg C x f) (hr : Room 1 X.A) (hm : X.mg cn = some (.ref C)) (ha : PA X [e] ta) (hg : Gl X cn := by rfl) (hdb : (cn == ("__debug__" : Str)) = false := by decide) (he : starEach [e] X.env = (false, eval e X.env) :: starEach [] X.env := by rfl) : PE X (.Call (.Name cn p) [e] [] pos) (tEv1 C f ta) := by
  obtain ⟨fI, B, newId, initId, bmB, params, body, scope, T, ⟨txt, kk, p0, p1, p2, p3, p4, p5, q1, q2, q3, q4, hb, hev, D⟩, hfn, _⟩ := T
  refine ⟨fun pins s σ H Q I h => ?_⟩
  refine wpAny_Call_Name_kw (ld_glob I hg hm ?_ hdb)
  refine PySem.W.callWith_K (h₀ := X.base) I.ok.mod.kin T.f.kC (thn (ha.run pos pins s σ H _ I h) fun us s1 ⟨vs, H1, I1, r1, v, ev, q1⟩ => ⟨I1.kIn, ?_⟩) he rfl
  subst ev
  cases r1 with
  | @cons _ u _ ur ru rr =>
    cases rr
    refine err_make1 T hev D hfn hb hr I1 fun a t d s' z1 z2 z3 z4 z5 z6 z7 z8 => ?_
    exact ⟨.ref a, _, ev_inv I1 z1 z2 z3 z4 z5 z6 (relO1 ru) z7 z8, rfl, q1 a d (I1.hok.fresh z1) (I1.hok.fresh z2) z3⟩
theorem pe_ev2 (T : Ek2 X.prog X.K X.mg C x f y f2) (hr : Room 1 X.A) (hm : X.mg cn = some (.ref C)) (ha : PA X [e, e2] ta) (hg : Gl X cn := by rfl) (hdb : (cn == ("__debug__" : Str)) = false := by decide) (he : starEach [e, e2] X.env = (false, eval e X.env) :: starEach [e2] X.env := by rfl) (hpl : (backTo pos (starEach [e2] X.env)).any (·.1) = false := by rfl) : PE X (.Call (.Name cn p) [e, e2] [] pos) (tEv2 C f f2 ta) := by
  obtain ⟨fI, B, newId, initId, bmB, params, body, scope, T, ⟨txt, kk, p0, p1, p2, p3, p4, p5, q1, q2, q3, q4, r1, r2, r3, r4, hb, hev, D, D2⟩, ⟨hfn, hfn2⟩, _⟩ := T
  refine ⟨fun pins s σ H Q I h => ?_⟩
  refine wpAny_Call_Name_kw (ld_glob I hg hm ?_ hdb)
  refine PySem.W.callWith_K (h₀ := X.base) I.ok.mod.kin T.f.kC (thn (ha.run pos pins s σ H _ I h) fun us s1 ⟨vs, H1, I1, rv, v, v2, ev, q1⟩ => ⟨I1.kIn, ?_⟩) he hpl
  subst ev
  cases rv with
  | @cons _ u _ ur ru rr =>
    cases rr with
    | @cons _ u2 _ ur2 ru2 rr =>
      cases rr
      refine err_make2 T hev D D2 hfn hfn2 hb hr I1 fun a t d s' z1 z2 z3 z4 z5 z6 z7 z8 => ?_
      exact ⟨.ref a, _, ev_inv I1 z1 z2 z3 z4 z5 z6 (relO2 ru ru2) z7 z8, rfl, q1 a d (I1.hok.fresh z1) (I1.hok.fresh z2) z3⟩
theorem pe_ev1K (T : Ek1 X.prog X.K X.mg C x f) (hr : Room 1 X.A) (hm : X.mg cn = some (.ref C)) (ha : PK X kws ta) (hg : Gl X cn := by rfl) (hdb : (cn == ("__debug__" : Str)) = false := by decide)
    (hall : (backToKw pos (keywordEach kws X.env)).all (·.1.isSome) = true := by rfl) (hks : (backToKw pos (keywordEach kws X.env)).filterMap (·.1) = [x] := by rfl)
    (hpl : ((backTo pos (starEach [] X.env)).any (·.1) || (backToKw pos (keywordEach kws X.env)).any (·.1.isNone)) = false := by rfl) : PE X (.Call (.Name cn p) [] kws pos) (tEv1 C f ta) := by
  obtain ⟨fI, B, newId, initId, bmB, params, body, scope, T, ⟨txt, kk, p0, p1, p2, p3, p4, p5, q1, q2, q3, q4, hb, hev, D⟩, hfn, ndf, kw⟩ := T
  refine ⟨fun pins s σ H Q I h => ?_⟩
  refine wpAny_Call_Name_kw (ld_glob I hg hm ?_ hdb)
  refine PySem.W.callWith_KW0 (h₀ := X.base) I.ok.mod.kin T.f.kC hall ?_ hpl
  refine thn (ha.run pos pins s σ H _ I h) fun ws s1 ⟨zs, H1, I1, rz, v, ev, q1⟩ => ⟨I1.kIn, ?_⟩
  rw [hks]
  subst ev
  cases rz with
  | @cons _ u _ ur ru rr =>
    cases rr
    refine err_make1K T hev D hfn hb ndf kw hr I1 fun a t d s' z1 z2 z3 z4 z5 z6 z7 z8 => ?_
    exact ⟨.ref a, _, ev_inv I1 z1 z2 z3 z4 z5 z6 (relO1 ru) z7 z8, rfl, q1 a d (I1.hok.fresh z1) (I1.hok.fresh z2) z3⟩
theorem pe_ev2K (T : Ek2 X.prog X.K X.mg C x f y f2) (hr : Room 1 X.A) (hm : X.mg cn = some (.ref C)) (ha : PK X kws ta) (hg : Gl X cn := by rfl) (hdb : (cn == ("__debug__" : Str)) = false := by decide)
    (hall : (backToKw pos (keywordEach kws X.env)).all (·.1.isSome) = true := by rfl) (hks : (backToKw pos (keywordEach kws X.env)).filterMap (·.1) = [y, x] := by rfl)
    (hpl : ((backTo pos (starEach [] X.env)).any (·.1) || (backToKw pos (keywordEach kws X.env)).any (·.1.isNone)) = false := by rfl) : PE X (.Call (.Name cn p) [] kws pos) (tEv2K C f f2 ta) := by
  obtain ⟨fI, B, newId, initId, bmB, params, body, scope, T, ⟨txt, kk, p0, p1, p2, p3, p4, p5, q1, q2, q3, q4, r1, r2, r3, r4, hb, hev, D, D2⟩, ⟨hfn, hfn2⟩, ndf, kw⟩ := T
  refine ⟨fun pins s σ H Q I h => ?_⟩
  refine wpAny_Call_Name_kw (ld_glob I hg hm ?_ hdb)
  refine PySem.W.callWith_KW0 (h₀ := X.base) I.ok.mod.kin T.f.kC hall ?_ hpl
  refine thn (ha.run pos pins s σ H _ I h) fun ws s1 ⟨zs, H1, I1, rz, v, v2, ev, q1⟩ => ⟨I1.kIn, ?_⟩
  rw [hks]
  subst ev
  cases rz with
  | @cons _ u2 _ ur2 ru2 rr =>
    cases rr with
    | @cons _ u _ ur ru rr =>
      cases rr
      refine err_make2K T hev D D2 hfn hfn2 hb ndf kw hr I1 fun a t d s' z1 z2 z3 z4 z5 z6 z7 z8 => ?_
      exact ⟨.ref a, _, ev_inv I1 z1 z2 z3 z4 z5 z6 (relO2 ru ru2) z7 z8, rfl, q1 a d (I1.hok.fresh z1) (I1.hok.fresh z2) z3⟩
end
end L3
/-! Several except clauses, some of them with a name. -/
namespace L3
open PySem PySem.Spec PyProof.Rows L2
/-- a clause: the class it names, the slot of its name, what its suite does -/
structure Cls1 where
  c : Value
  slot : Option Nat
  ts : Addr → Value → Option Addr → TS
def Cls1.ends (k : Cls1) (D : Ends) : Ends := match k.slot with
  | none => D
  | some i => ⟨fun τ G => D.nx (τ.set i none) G, D.rt, fun τ G => D.bk (τ.set i none) G, fun τ G => D.ct (τ.set i none) G⟩
def Cls1.start (k : Cls1) (a : Addr) (σ : L2.St) : L2.St := match k.slot with
  | none => σ
  | some i => σ.set i (some (.ref a))
/-- what the clauses wish of an error of the body -/
def wMix (K : PySem.W.Frag) (Wout : WX) (D : Ends) : List Cls1 → WX
  | [] => Wout
  | k :: r => fun cls d σ H => ∃ b, PySem.W.exmOne K cls k.c = some b ∧ (b = true → ∀ a, H a = none → k.ts a cls d (k.ends D) (k.start a σ) H) ∧ (b = false → wMix K Wout D r cls d σ H)
/-- a suite that holds an error -/
def SuOk (X : Cx) (b₀ : Stmt) (su : List Stmt) (ts : Addr → Value → Option Addr → TS) : Prop := ∀ (a : Addr) (oe : Obj) (cls : Value) (d : Option Addr) (pn : List (Addr × Obj)), Zc cls d oe → (∃ vs, oe.data = .fields vs) → PSs (X.suite a ((a, oe) :: pn)) (b₀ :: su) (ts a cls d)
inductive MixOk (X : Cx) : List ExceptHandler → List Cls1 → Prop
  | nil : MixOk X [] []
  | bare {x : Str} {c : Value} {ts : Addr → Value → Option Addr → TS} {b₀ : Stmt} {su : List Stmt} {p1 p2 : Pos} {hs : List ExceptHandler} {l : List Cls1} : Names X x c → SuOk X b₀ su ts → MixOk X hs l → MixOk X (.ExceptHandler (some (.Name x p1)) none (b₀ :: su) p2 :: hs) (⟨c, none, ts⟩ :: l)
  | named {x n : Str} {i : Nat} {c : Value} {ts : Addr → Value → Option Addr → TS} {b₀ : Stmt} {su : List Stmt} {p1 p2 : Pos} {hs : List ExceptHandler} {l : List Cls1} : Names X x c → X.N[i]? = some n → X.env.kindOf n = some .local → SuOk X b₀ su ts → MixOk X hs l → MixOk X (.ExceptHandler (some (.Name x p1)) (some n) (b₀ :: su) p2 :: hs) (⟨c, some i, ts⟩ :: l)
section
variable {X : Cx} {pins : List (Addr × Obj)} {σ : L2.St} {H : Hp} {a : Addr} {cls : Value} {d : Option Addr} {B g : Heap} {sI s : Shared}
/-- an error that flies over this frame -/
structure Fly (X : Cx) (pins : List (Addr × Obj)) (σ : L2.St) (H : Hp) (a : Addr) (cls : Value) (d : Option Addr) (B : Heap) (sI s : Shared) (g : Heap) : Prop where
  J : L2.Inv X pins σ H sI
  nb : ∀ b o, sI.heap.get? b = some o → b ∉ frs X.stack → B.get? b = some o
  up : sI.heap.UpToSlots g
  fl : HandSPX.FlyingZ B (X.env :: X.outer) a (Zc cls d) g
  na : H a = none
  os : s.os = sI.os
  ag : AllBare s.gens
theorem Fly.inv (F : Fly X pins σ H a cls d B sI s g) : L2.Inv X pins σ H { s with heap := g } := F.J.landed F.nb F.fl.1 F.up F.os F.ag
theorem Fly.suite (F : Fly X pins σ H a cls d B sI s g) (hf : X.env.frame = some X.env.locals) : ∃ (oe : Obj) (vs : Array Value), g.get? a = some oe ∧ Zc cls d oe ∧ oe.data = .fields vs ∧ L2.Inv (X.suite a ((a, oe) :: (X.pn ++ pins))) [] σ H { s with heap := g } := by
  obtain ⟨oe, vs, h1, h2, h3⟩ := F.fl.there
  have out : a ∉ frs (X.env :: X.outer) := fun m => by
    obtain ⟨_, u, e, no⟩ := F.fl.2.2.1.mem m
    rw [h1] at e
    cases e
    exact no _ h3
  refine ⟨oe, vs, h1, h2, h3, F.inv.suite h1 h3 F.na (fun z => out ?_) fun m => out ?_⟩
  · exact List.mem_filterMap.mpr ⟨_, List.mem_cons_self, by rw [hf, z]⟩
  · obtain ⟨v, m1, m2⟩ := List.mem_filterMap.mp m
    exact List.mem_filterMap.mpr ⟨v, List.mem_cons_of_mem _ m1, m2⟩
/-- the class of a clause is asked -/
theorem Fly.asked (F : Fly X pins σ H a cls d B sI s g) (hf : X.env.frame = some X.env.locals) {x : Str} {c : Value} {b : Bool} {p1 : Pos} (hc : Names X x c) (hb : PySem.W.exmOne X.K cls c = some b) {M : Value → Shared → Prop} {E : Value → Shared → Prop} (k : M c { s with heap := g }) :
    wpAny (model X.prog X.w) (X.A.mark (some (.ref a))) (eval (.Name x p1) X.env) M E { s with heap := g } := by
  obtain ⟨oe, vs, h1, h2, h3, S⟩ := F.suite hf
  obtain ⟨n1, n2, m | ⟨m, n3, n4⟩⟩ := hc
  · exact ld_glob (X := X.suite a ((a, oe) :: (X.pn ++ pins))) S n1 m k n2
  · exact ld_blt (X := X.suite a ((a, oe) :: (X.pn ++ pins))) S n1 m n3 k n4 n2
theorem Fly.match_ (F : Fly X pins σ H a cls d B sI s g) {c : Value} {b : Bool} (hb : PySem.W.exmOne X.K cls c = some b) : PySem.W.Looks (model X.prog X.w) g (excMatches (.ref a) c) b := by
  obtain ⟨oe, vs, h1, h2, h3⟩ := F.fl.there
  refine PySem.W.exm_one F.inv.kIn (fun A' M' E' s1 k q => ?_) hb
  refine wpAny_typeOf_ref (k _ _ h1) ?_
  rw [h2.1]
  exact q
/-- on from here, the frame's flight noted again -/
theorem Fly.on (F : Fly X pins σ H a cls d B sI s g) {g' : Heap} (f : HandSPX.FlyingZ B (X.env :: X.outer) a (Zc cls d) g') (u : g.UpToSlots g') : Fly X pins σ H a cls d B sI s g' := ⟨F.J, F.nb, F.up.trans u, f, F.na, F.os, F.ag⟩
variable {D : Ends} {Wout : WX} {hs : List ExceptHandler} {x n : Str} {i : Nat} {c : Value} {ts : Addr → Value → Option Addr → TS} {b₀ : Stmt} {su : List Stmt} {p1 p2 : Pos} {b : Bool}
/-- no clause is left -/
theorem Fly.out (F : Fly X pins σ H a cls d B sI s g) (st : X.stack = X.env :: X.outer) (hf : X.env.frame = some X.env.locals) (tk : Takes X Wout) (w : Wout cls d σ H) :
    wpAny (model X.prog X.w) X.A (handleBy (.ref a) X.env []) (SP X pins D) X.xe { s with heap := g } := by
  have throw_ : wpAny (model X.prog X.w) X.A (setFlight (.ref a) X.env.frame) (fun _ s4 => wpAny (model X.prog X.w) X.A (throw (.ref a) : Sem Flow) (SP X pins D) X.xe s4) X.xe { s with heap := g } := by
    rw [hf]
    refine HandSPX.setFlight_upZ F.fl fun g4 sk u4 => ?_
    refine wpAny_throw (tk _ _ ⟨a, B, sI, pins, σ, H, cls, d, rfl, F.J, F.nb, F.up.trans u4, .inr (.inr ?_), F.na, F.os, F.ag, w⟩)
    rw [st]
    exact sk
  obtain ⟨_, _, _, oe, vs, tb, _, _, e1, _, e3, e4, _⟩ := id F.fl
  have ne : ¬ ((Value.ref tb == Value.none) = true) := by simp
  refine wpAny_handleBy_nil ?_
  unfold PySem.passOn
  refine wpAny_bind (wpAny_field e1 e3 e4 ?_)
  rw [if_neg ne]
  first
    | exact wpAny_bind throw_
    | exact wpAny_bind (wpAny_pure (wpAny_bind throw_))
/-- a clause without a name -/
theorem Fly.bare (F : Fly X pins σ H a cls d B sI s g) (hf : X.env.frame = some X.env.locals) (hc : Names X x c) (hsu : SuOk X b₀ su ts) (hb : PySem.W.exmOne X.K cls c = some b) (yes : b = true → ts a cls d D σ H)
    (no : b = false → wpAny (model X.prog X.w) X.A (handleBy (.ref a) X.env hs) (SP X pins D) X.xe { s with heap := g }) :
    wpAny (model X.prog X.w) X.A (handleBy (.ref a) X.env (.ExceptHandler (some (.Name x p1)) none (b₀ :: su) p2 :: hs)) (SP X pins D) X.xe { s with heap := g } := by
  refine wpAny_handleBy_cons (codeAny_handlers_test (F.asked hf hc hb ((F.match_ hb).here ?_))) fun q => nomatch q
  cases b with
  | false => exact no rfl
  | true =>
    refine codeAny_handlers_suite (HandSPX.lands_againZ F.fl fun g4 f4 u4 => ?_)
    have F4 := F.on f4 u4
    have ok := F.J.ok
    obtain ⟨oe, vs, _, z, e3, S⟩ := F4.suite hf
    refine wpAny_mono ((hsu a oe cls d (X.pn ++ pins) z ⟨_, e3⟩).run [] _ _ H _ S (yes rfl)) (fun fl s6 r => ?_) (fun _ _ z => z.elim)
    cases fl with
    | next => obtain ⟨τ, G, S6, q6⟩ := r; exact ⟨τ, G, S6.unsuite ok, q6⟩
    | brk => obtain ⟨τ, G, S6, q6⟩ := r; exact ⟨τ, G, S6.unsuite ok, q6⟩
    | cont => obtain ⟨τ, G, S6, q6⟩ := r; exact ⟨τ, G, S6.unsuite ok, q6⟩
    | ret u => obtain ⟨y, τ, G, S6, ry, q6⟩ := r; exact ⟨y, τ, G, S6.unsuite ok, ry, q6⟩
/-- a clause with a name -/
theorem Fly.named (F : Fly X pins σ H a cls d B sI s g) (hf : X.env.frame = some X.env.locals) (nd : X.N.Nodup) (hc : Names X x c) (hi : X.N[i]? = some n) (hn : X.env.kindOf n = some .local) (hsu : SuOk X b₀ su ts) (hb : PySem.W.exmOne X.K cls c = some b)
    (yes : b = true → ts a cls d ((⟨c, some i, ts⟩ : Cls1).ends D) (σ.set i (some (.ref a))) H)
    (no : b = false → wpAny (model X.prog X.w) X.A (handleBy (.ref a) X.env hs) (SP X pins D) X.xe { s with heap := g }) :
    wpAny (model X.prog X.w) X.A (handleBy (.ref a) X.env (.ExceptHandler (some (.Name x p1)) (some n) (b₀ :: su) p2 :: hs)) (SP X pins D) X.xe { s with heap := g } := by
  refine wpAny_handleBy_cons (codeAny_handlers_test (F.asked hf hc hb ((F.match_ hb).here ?_))) fun q => nomatch q
  cases b with
  | false => exact no rfl
  | true =>
    refine codeAny_handlers_suite_as (HandSPX.lands_againZ F.fl fun g4 f4 u4 => ?_)
    have F4 := F.on f4 u4
    have ok := F.J.ok
    obtain ⟨oe, vs, _, z, e3, S⟩ := F4.suite hf
    refine store_ok (X := X.suite a ((a, oe) :: (X.pn ++ pins))) (v := .ref a) S nd hi (.inl hn) rfl (fun s5 S5 => ?_) (.inr hn)
    refine wpAny_mono ((hsu a oe cls d (X.pn ++ pins) z ⟨_, e3⟩).run [] s5 _ H _ S5 (yes rfl)) (fun fl s6 r => ?_) (fun _ _ z => z.elim)
    cases fl with
    | next => obtain ⟨τ, G, S6, q6⟩ := r; exact gone_ok (S6.unsuite ok) nd hi hn fun s7 J7 => ⟨_, _, J7, q6⟩
    | brk => obtain ⟨τ, G, S6, q6⟩ := r; exact gone_ok (S6.unsuite ok) nd hi hn fun s7 J7 => ⟨_, _, J7, q6⟩
    | cont => obtain ⟨τ, G, S6, q6⟩ := r; exact gone_ok (S6.unsuite ok) nd hi hn fun s7 J7 => ⟨_, _, J7, q6⟩
    | ret u => obtain ⟨y, τ, G, S6, ry, q6⟩ := r; exact gone_ok (S6.unsuite ok) nd hi hn fun s7 J7 => ⟨_, _, _, J7, ry, q6⟩
theorem Fly.all (F : Fly X pins σ H a cls d B sI s g) (st : X.stack = X.env :: X.outer) (hf : X.env.frame = some X.env.locals) (nd : X.N.Nodup) (tk : Takes X Wout) : ∀ {hs : List ExceptHandler} {l : List Cls1}, MixOk X hs l → wMix X.K Wout D l cls d σ H →
    wpAny (model X.prog X.w) X.A (handleBy (.ref a) X.env hs) (SP X pins D) X.xe { s with heap := g }
  | _, _, .nil, w => F.out st hf tk w
  | _, _, .bare hc hsu r, ⟨_, hb, yes, no⟩ => F.bare hf hc hsu hb (fun e => yes e a F.na) fun e => F.all st hf nd tk r (no e)
  | _, _, .named hc hi hn hsu r, ⟨_, hb, yes, no⟩ => F.named hf nd hc hi hn hsu hb (fun e => yes e a F.na) fun e => F.all st hf nd tk r (no e)
end
/-- try: .. except A as e: .. except B: .. -/
theorem ps_try_mix {X : Cx} {body : List Stmt} {h₀ : ExceptHandler} {hds : List ExceptHandler} {l : List Cls1} {pos : Pos} {tb : WX → TS} {Wout : WX} (st : X.stack = X.env :: X.outer) (hf : X.env.frame = some X.env.locals) (nd : X.N.Nodup) (tk : Takes X Wout)
    (hb : ∀ (W : WX) (pn : List (Addr × Obj)) (xe : Value → Shared → Prop), Takes (X.tr pn xe) W → PassesOwn (model X.prog X.w) X.A X.env xe → PSs (X.tr pn xe) body (tb W))
    (hh : MixOk X (h₀ :: hds) l) : PS X (.Try body (h₀ :: hds) [] [] pos) (fun D σ H => tb (wMix X.K Wout D l) D σ H) := by
  refine ⟨fun pins s σ H D I h => ?_⟩
  have ok := I.ok
  have frs_ : X.A.frames = some (X.env :: X.outer) := by rw [ok.frames, st]
  have B_ := hb (wMix X.K Wout D l) (X.pn ++ pins) (fun e s1 => wpAny (model X.prog X.w) X.A (noteFrame e X.env) (fun _ s2 => wpAny (model X.prog X.w) X.A (setFlight e none) (fun _ s3 => wpAny (model X.prog X.w) X.A (handleBy e X.env (h₀ :: hds)) (SP X pins D) X.xe s3) X.xe s2) X.xe s1)
    (fun u s' xx => by
      obtain ⟨a, B, sI, _, τ, G, cls, d, rfl, J', nb, up, sky, na, os, ag, w⟩ := xx
      have J : L2.Inv X pins τ G sI := J'.ofTry ok
      rw [st] at sky
      show wpAny (model X.prog X.w) X.A (noteFrame (.ref a) X.env) _ _ _
      exact Sky.land Zc.steady frs_ hf sky fun g3 f3 u3 => Fly.all (s := s') ⟨J, nb, up.trans u3, f3, na, os, ag⟩ st hf nd tk hh w) PassesOwn.looking
  refine wpAny_Try_except (wpAny_mono (B_.run [] s σ H D (I.toTry _) h) (fun fl s1 r => ?_) fun _ _ z => z)
  cases fl with
  | next => obtain ⟨τ, G, J, q⟩ := r; exact wpAny_execs_nil ⟨τ, G, J.ofTry ok, q⟩
  | brk => obtain ⟨τ, G, J, q⟩ := r; exact ⟨τ, G, J.ofTry ok, q⟩
  | cont => obtain ⟨τ, G, J, q⟩ := r; exact ⟨τ, G, J.ofTry ok, q⟩
  | ret u => obtain ⟨y, τ, G, J, ry, q⟩ := r; exact ⟨y, τ, G, J.ofTry ok, ry, q⟩
end L3
/-! repr of dicts whose keys are ints and texts, within lists that hold own objects. -/
namespace L3
open PySem PySem.Spec PyProof.Rows L2
def keyD : Key → PyData
  | .inl i => .int i
  | .inr x => .str x
theorem keyD_noDict : ∀ ks : List Key, PyData.hasDictAll (ks.map keyD) = false
  | [] => by simp only [List.map_nil, PyData.hasDictAll]
  | .inl i :: ks => by
    have := keyD_noDict ks
    simp only [List.map_cons, PyData.hasDictAll, keyD, PyData.hasDict, this, Bool.or_self]
  | .inr i :: ks => by
    have := keyD_noDict ks
    simp only [List.map_cons, PyData.hasDictAll, keyD, PyData.hasDict, this, Bool.or_self]
section
variable {P : Program} {w : World} {h : Heap}
/-- what the entries of a dict hold -/
theorem ent_of : ∀ {es : List DictEntry} {kvs : List (Key × V)} {vs : List (Key × Value)}, KV kvs vs → Pairs (mixKind P w) es vs → (∃ as, ReadsAll h (es.map (·.key)) (kvs.map fun kv => keyD kv.1) as) ∧ Vals (kvs.map (·.2)) (es.map (·.val))
  | _, _, _, .nil, .nil => ⟨⟨_, .nil⟩, .nil⟩
  | e :: es, kv :: kvs, v :: vs, .cons ⟨h1, h2⟩ r, .cons k1 k2 p => by
    obtain ⟨⟨as, ra⟩, rv⟩ := ent_of r p
    refine ⟨?_, .cons (by show RelV kv.2 e.val; rw [k2]; exact h2) rv⟩
    have k1 : keyIs v.1 e.key = true := k1
    rcases keyIs_shape k1 with ⟨i, t, e1, e2⟩ | ⟨x, t, e1, e2⟩
    · refine ⟨[] ++ as, .cons ?_ ra⟩
      show Reads h e.key (keyD kv.1) []
      rw [e2, h1, e1]
      exact .int i t
    · refine ⟨[] ++ as, .cons ?_ ra⟩
      show Reads h e.key (keyD kv.1) []
      rw [e2, h1, e1]
      exact .str x t
end
theorem zip_fstD {α β : Type} : ∀ {a : List α} {b : List β}, a.length = b.length → (a.zip b).map (·.1) = a
  | [], [], _ => rfl
  | x :: a, y :: b, h => by rw [List.zip_cons_cons, List.map_cons, zip_fstD (Nat.succ.inj h)]
theorem zip_sndD {α β : Type} : ∀ {a : List α} {b : List β}, a.length = b.length → (a.zip b).map (·.2) = b
  | [], [], _ => rfl
  | x :: a, y :: b, h => by rw [List.zip_cons_cons, List.map_cons, zip_sndD (Nat.succ.inj h)]
/-- the data of a dict -/
def dDict (kvs : List (Key × V)) (ds : List PyData) : PyData := .dict ((kvs.map fun kv => keyD kv.1).zip ds)
section
variable {X : Cx} {k : Nat} {H : Hp}
theorem ReprStep.dct {a : Addr} {kvs : List (Key × V)} {ds : List PyData} (ha : H a = some (.dK kvs)) (hv : DpAll X.K H (kvs.map (·.2)) ds) (hs : (dDict kvs ds).showable = true) (hz : (dDict kvs ds).shown.length ≤ sizeLine) (hp : (dDict kvs ds).depth ≤ 50) : ReprStep X k H (.ref a) (dDict kvs ds).shown := by
  intro base A g pins s σ H' u Q E' hb hA hg I sm rx hQ
  cases rx
  have ha' := sm _ _ ha
  have hv' := DpAll.same sm hv
  have hu := hA.room.units
  obtain ⟨z, hsys, vs, rel, o, es, ep, ho, hex, hd, hkeys, hpairs, hnd⟩ := dk_of I.hok ha'
  obtain ⟨⟨as, ra⟩, rv⟩ := ent_of (h := s.heap) rel hpairs
  obtain ⟨bs, rb⟩ := Dp.readsAll I ds _ _ hv' rv
  have hlen : (kvs.map fun kv => keyD kv.1).length = ds.length := by rw [← dpAll_len hv', List.length_map, List.length_map]
  unfold dDict at hs hz hp hQ hb
  have e1 := zip_fstD hlen
  have e2 := zip_sndD hlen
  have nk := keyD_noDict (kvs.map (·.1))
  rw [List.map_map] at nk
  have nk : PyData.hasDictAll (kvs.map fun kv => keyD kv.1) = false := nk
  have nv : PyData.hasDictAll ds = false := dpAll_noDict hv'
  generalize (kvs.map fun kv => keyD kv.1).zip ds = kd at *
  rw [← e1] at ra nk
  rw [← e2] at rb nv
  have hz' : (dictText (PyData.shownKv kd)).length ≤ sizeLine := by simpa only [PyData.shown] using hz
  obtain ⟨hs1, hs2⟩ := PyData.showableKv_split kd (by simpa [PyData.showable] using hs)
  obtain ⟨b1, hb1, k1⟩ := ReprAllK.of_readsAll (prog := X.prog) (w := X.w) ra hs1 (fun q => by rw [nk] at q; cases q) (fun t ht => let ⟨p, hp, hl⟩ := PyData.shownKv_key_le kd t ht; Nat.le_trans hl (Nat.le_trans (dictText_mem_le hp) hz'))
  obtain ⟨b2, hb2, k2⟩ := ReprAllK.of_readsAll (prog := X.prog) (w := X.w) rb hs2 (fun q => by rw [nv] at q; cases q) (fun t ht => let ⟨p, hp, hl⟩ := PyData.shownKv_val_le kd t ht; Nat.le_trans hl (Nat.le_trans (dictText_mem_le hp) hz'))
  have hcls : o.cls = .type "dict" := hex.1
  have r : Reads s.heap (.ref a) (.dict kd) _ := .dict ho hcls hd ra rb
  have hbm : ReadAtMost s.heap (PyData.depthKv kd) (b1 ++ b2) := (hb1.mono (PyData.depthAll_keys_le kd)).append (hb2.mono (PyData.depthAll_vals_le kd))
  have hna : a ∉ b1 ++ b2 := not_mem_of_deeper r (by simp only [PyData.depth]; omega) hbm
  have hk : ReprK X.prog X.w (a :: (b1 ++ b2)) s.heap (PyData.depthKv kd + 1) (.ref a) (dictText (List.zipWith (fun k v : Str => k ++ ": " ++ v) (PyData.shownAll (kd.map (·.1))) (PyData.shownAll (kd.map (·.2))))) := ReprK.dict ho hcls hd hsys hna (ReprEntriesK.of_two es.toList _ _
    (k1.more_le (fun b hb => List.mem_append_left _ hb) (PyData.depthAll_keys_le kd)) (k2.more_le (fun b hb => List.mem_append_right _ hb) (PyData.depthAll_vals_le kd)))
  have hsh : (PyData.dict kd).shown = dictText (List.zipWith (fun k v : Str => k ++ ": " ++ v) (PyData.shownAll (kd.map (·.1))) (PyData.shownAll (kd.map (·.2)))) := by simp only [PyData.shown, PyData.shownKv_eq]
  have hdp : (PyData.dict kd).depth = PyData.depthKv kd + 1 := by simp only [PyData.depth]
  rw [hsh] at hb hQ
  rw [hdp] at hp
  refine hk base hb A g E' s Q hA.gd (fun b hbm' => ?_) (by omega) (fun _ _ e => e) fun h' tk kk => hQ H' _ (I.kept kk) (Same.refl _)
  rcases List.mem_cons.mp hbm' with rfl | hbm'
  · exact gok_clear I hg r
  · obtain ⟨d', as', r', _⟩ := hbm b hbm'
    exact gok_clear I hg r'
end
end L3
/-! Own errors as values: e.f, isinstance(e, D); raise C(). -/
namespace L3
open PySem PySem.Spec PyProof.Rows L2
/-- e.f -/
def tEvAt (K : PySem.W.Frag) (n : Str) (te : TE) : TE := fun σ H Q => te σ H fun x H1 => ∃ (a C d : Addr) (fs : List (Str × V)) (v : V), x = .ref a ∧ H1 a = some (evO C a (some d)) ∧ H1 d = some (.xd fs) ∧ fs.lookup n = some v ∧ XfC K C ∧ PySem.W.findIn K (.ref C) n = some none ∧ Q v H1
section
variable {X : Cx} {pins : List (Addr × Obj)} {σ : L2.St} {H : Hp} {s : Shared}
theorem ev_at {a C : Addr} {d : Option Addr} (I : L2.Inv X pins σ H s) (h : H a = some (evO C a d)) : ∃ t, s.heap.get? a = some (erO C t d) := (I.hok a _ h).1
theorem pe_evAt {e : Expr} {te : TE} {pos : Pos} {n : Str} (he : PE X e te) (hb : attributeBase e n X.env (eval e X.env) = eval e X.env := by rfl) : PE X (.Attribute e n pos) (tEvAt X.K n te) := by
  refine ⟨fun pins s σ H Q I h => attr_of hb (thn (he.run pins s σ H _ I h) fun u s1 hh => ?_)⟩
  obtain ⟨x, H1, I1, rx, a, C, d, fs, v, ex, ea, ed, l, T, hno, q⟩ := hh
  subst ex
  obtain rfl : u = Value.ref a := rx
  obtain ⟨t, ha⟩ := ev_at I1 ea
  obtain ⟨mA, hns, hr⟩ : ObjOk X.prog X.w H1 s1.heap d (.xd fs) := I1.hok d _ ed
  obtain ⟨od, ho, hl⟩ := lookIn_ns hns
  obtain ⟨w, hw, rw_⟩ := RelO.some_of (v := v) (o := mA n) (by rw [← l]; exact hr n)
  exact HandSPX.exc_get I1.kIn (errObj (od := some od) ha ho) T.ga T.gg T.exC (PySem.W.findObj_own T.hdC hno rfl (by rw [hl, hw])) (handed_of rw_) ⟨v, H1, I1.tok _, rw_, q⟩
theorem pe_evAtK {K : PySem.W.Frag} (h : X.K = K) {e : Expr} {te : TE} {pos : Pos} {n : Str} (he : PE X e te) (hb : attributeBase e n X.env (eval e X.env) = eval e X.env := by rfl) : PE X (.Attribute e n pos) (tEvAt K n te) := h ▸ pe_evAt he hb
/-- isinstance(e, D) -/
def rIsV (K : PySem.W.Frag) : List V → Hp → VK → Prop := fun xs H Q => ∃ (a C : Addr) (d : Option Addr) (c : V) (cv : Value) (b : Bool), xs = [.ref a, c] ∧ H a = some (evO C a d) ∧ (∀ dd, d = some dd → ∃ fs, H dd = some (.xd fs)) ∧ ExcC K C ∧ (∀ u, RelV c u → u = cv) ∧ PySem.W.kitOne K (.ref C) cv = some b ∧ Q (.bl b) H
theorem call_isV : CallR X (.builtin "isinstance") (rIsV X.K) := by
  intro pins s σ H xs us Q I r h
  obtain ⟨a, C, d, c, cv, b, rfl, ea, hd, T, hcv, e, q⟩ := h
  match us, r with
  | [_, _], .cons rx (.cons rt .nil) =>
    cases rx
    have ec := hcv _ rt
    subst ec
    obtain ⟨t, ha⟩ := ev_at I ea
    have fin : ∀ tk, EP X pins σ Q (.bool b) { s with toks := tk } := fun tk => ⟨.bl b, H, I.kept (t' := tk) fun _ _ z => z, rfl, q⟩
    cases d with
    | none => exact PySem.W.kia_one (PySem.W.handS_kitx_exc T.hg T.hk T.hs T.hd T.ha T.hn T.ht T.hm) I.kIn (errObj (od := none) ha trivial) e (fun z => nomatch z) fin
    | some dd =>
      obtain ⟨fs, ed⟩ := hd dd rfl
      obtain ⟨mA, hns, _⟩ : ObjOk X.prog X.w H s.heap dd (.xd fs) := I.hok dd _ ed
      obtain ⟨od, ho, _⟩ := lookIn_ns hns
      exact PySem.W.kia_one (kitx_excD T) I.kIn (errObj (od := some od) ha ho) e (fun z => nomatch z) fin
theorem call_isVK {K : PySem.W.Frag} (h : X.K = K) : CallR X (.builtin "isinstance") (rIsV K) := h ▸ call_isV
/-- the error is let go -/
theorem err_inv0 {H1 : Hp} {s1 s' : Shared} {a : Addr} (I1 : L2.Inv X pins σ H1 s1) (ha : s1.heap.objs.size ≤ a) (k : ∀ b o, s1.heap.get? b = some o → s'.heap.get? b = some o) :
    ∃ G, L2.Inv X pins σ H1 { s1 with heap := G, toks := s'.toks } ∧ (∀ b o, G.get? b = some o → s'.heap.get? b = some o) ∧ G.get? a = none ∧ H1 a = none := by
  obtain ⟨G, g1, g2⟩ := restrict s'.heap fun b => decide (b ≠ a)
  have gk : ∀ b, b ≠ a → G.get? b = s'.heap.get? b := fun b hb => g1 b (decide_eq_true hb)
  refine ⟨G, I1.kept fun b o z => ?_, fun b o z => ?_, g2 a (by simp), I1.hok.fresh ha⟩
  · rw [gk b (Nat.ne_of_lt (Nat.lt_of_lt_of_le (Heap.lt_size z) ha))]
    exact k b o z
  · by_cases hb : b = a
    · rw [hb, g2 a (by simp)] at z
      cases z
    · rw [← gk b hb]
      exact z
end
def tMk0 (C : Addr) : L2.St → Hp → XK → Prop := fun _ H Q => Q (.ref C) none H
section
variable {X : Cx} {C : Addr} {cn : Str} {p pos pos2 : Pos} {W : WX}
theorem pmk_err0 {fI : Addr} {B newId initId : String} {bmB : List Value} {params : Arguments} {body : List Stmt} {scope : Scope} {p0 p1 p2 p3 p4 p5 : Pos} {kk : Nat} {txt : Str} (T : ErrT X.prog X.K X.mg C fI B newId initId bmB ["self"] params body scope) (hev : SupOk scope txt kk p0 p1 p2 p3 p4) (hbody : body = [.Expr (supE txt kk p0 p1 p2 p3 p4) p5]) (hr : Room 1 X.A) (hg : Gl X cn) (hm : X.mg cn = some (.ref C))
    (hdb : (cn == ("__debug__" : Str)) = false := by decide) : PMk X (.Call (.Name cn p) [] [] pos) (tMk0 C) := by
  intro pins s σ H Q I h
  refine wpAny_Call_Name_kw (ld_glob I hg hm ?_ hdb)
  refine PySem.W.callWith_K0 I.kIn T.f.kC ?_
  refine err_make0 T hev hbody hr I fun a t s' z1 z4 z5 z7 z8 => ?_
  obtain ⟨G, J, kG, ge, na⟩ := err_inv0 I z1 z4
  exact ⟨a, _, _, _, _, .ref C, none, rfl, J, kG, ge, z5, ⟨rfl, rfl⟩, rfl, rfl, na, z8, by rw [z7]; exact I.bare, raises_own T.f.exC T.f.tyC, h⟩
/-- C() -/
theorem pe_ev0 (T : Ek0 X.prog X.K X.mg C) (hr : Room 1 X.A) (hm : X.mg cn = some (.ref C)) (hg : Gl X cn := by rfl) (hdb : (cn == ("__debug__" : Str)) = false := by decide) : PE X (.Call (.Name cn p) [] [] pos) (tEv0 C) := by
  obtain ⟨fI, B, newId, initId, bmB, params, body, scope, T, ⟨txt, kk, p0, p1, p2, p3, p4, p5, hb, hev⟩⟩ := T
  refine ⟨fun pins s σ H Q I h => ?_⟩
  refine wpAny_Call_Name_kw (ld_glob I hg hm ?_ hdb)
  refine PySem.W.callWith_K0 I.kIn T.f.kC ?_
  refine err_make0 T hev hb hr I fun a t s' z1 z4 z5 z7 z8 => ?_
  exact ⟨.ref a, _, ev_inv0 I z1 z4 z5 z7 z8, rfl, h a (I.hok.fresh z1)⟩
theorem ps_raise0 (hc : X.calm = true) (T : Ek0 X.prog X.K X.mg C) (hr : Room 1 X.A) (tk : Takes X W) (hm : X.mg cn = some (.ref C)) (hg : Gl X cn := by rfl) (hdb : (cn == ("__debug__" : Str)) = false := by decide) :
    PS X (.Raise (some (.Call (.Name cn p) [] [] pos)) none pos2) (fun _ σ H => tMk0 C σ H fun cls d H' => W cls d σ H') := by
  obtain ⟨fI, B, newId, initId, bmB, params, body, scope, T, ⟨txt, kk, p0, p1, p2, p3, p4, p5, hb, hev⟩⟩ := T
  exact ps_raise hc tk (pmk_err0 T hev hb hr hg hm hdb)
end
end L3
/-! Data with dicts (keys ints and texts): repr of lists of it. -/
namespace L3
open PySem PySem.Spec PyProof.Rows L2
mutual
inductive DpD (K : PySem.W.Frag) (H : Hp) : V → PyData → Prop
  | data {v : V} {d : PyData} : Dp K H v d → DpD K H v d
  | lst {a : Addr} {xs : List V} {ds : List PyData} : SqL K H a xs → DpDs K H xs ds → DpD K H (.ref a) (.list ds)
  | tup {a : Addr} {xs : List V} {ds : List PyData} : SqT K H a xs → DpDs K H xs ds → DpD K H (.ref a) (.tuple ds)
  | dct {a : Addr} {kvs : List (Key × V)} {ds : List PyData} {kd : List (PyData × PyData)} : H a = some (.dK kvs) → DpDs K H (kvs.map (·.2)) ds → kd = (kvs.map fun kv => keyD kv.1).zip ds → DpD K H (.ref a) (.dict kd)
inductive DpDs (K : PySem.W.Frag) (H : Hp) : List V → List PyData → Prop
  | nil : DpDs K H [] []
  | cons {v : V} {vs : List V} {d : PyData} {ds : List PyData} : DpD K H v d → DpDs K H vs ds → DpDs K H (v :: vs) (d :: ds)
end
theorem DpDs.len {K : PySem.W.Frag} {H : Hp} : ∀ {vs : List V} {ds : List PyData}, DpDs K H vs ds → vs.length = ds.length
  | _, _, .nil => rfl
  | _, _, .cons _ t => congrArg (· + 1) t.len
/-- what stands at an address of data so deep at most -/
def Rk (P : Program) (w : World) (h : Heap) (d : PyData) (u : Value) : Prop := (∃ as, Reads h u d as) ∧ (d.showable = true → d.shown.length ≤ sizeLine → ∃ bs, ReadAtMost h d.depth bs ∧ ReprK P w bs h d.depth u d.shown)
def Rks (P : Program) (w : World) (h : Heap) (ds : List PyData) (us : List Value) : Prop := (∃ as, ReadsAll h us ds as) ∧ (PyData.showableAll ds = true → (∀ t ∈ PyData.shownAll ds, t.length ≤ sizeLine) → ∃ bs, ReadAtMost h (PyData.depthAll ds) bs ∧ ReprAllK P w bs h (PyData.depthAll ds) us (PyData.shownAll ds))
section
variable {X : Cx} {pins : List (Addr × Obj)} {σ : L2.St} {H : Hp} {s : Shared}
theorem rk_list {a : Addr} {o : Obj} {us : List Value} {n : Nat} {ds : List PyData} (e1 : s.heap.get? a = some o) (e2 : o.cls = .type "list") (e3 : o.data = .seq us.toArray n) (R : Rks X.prog X.w s.heap ds us) : Rk X.prog X.w s.heap (.list ds) (.ref a) := by
  obtain ⟨⟨as, ra⟩, ks⟩ := R
  have r : Reads s.heap (.ref a) (.list ds) (a :: as) := .list e1 e2 e3 (by simpa using ra)
  refine ⟨⟨_, r⟩, fun sh sz => ?_⟩
  have sz' : (listText (PyData.shownAll ds)).length ≤ sizeLine := by simpa only [PyData.shown] using sz
  obtain ⟨bs, m, k⟩ := ks (by simpa [PyData.showable] using sh) fun t ht => Nat.le_trans (listText_mem_le ht) sz'
  refine ⟨a :: bs, .cons r (by simp only [PyData.depth]; omega) m, ?_⟩
  have out : a ∉ bs := not_mem_of_deeper r (by simp only [PyData.depth]; omega) m
  simp only [PyData.shown, PyData.depth]
  cases us with
  | nil =>
    cases ra
    simp only [listText_nil, PyData.shownAll]
    exact ReprK.listEmpty e1 e2 e3
  | cons x l => exact ReprK.list e1 e2 e3 out (by simpa using k.length_eq) fun i y e => k.item i y (by simpa using e)
theorem rk_tuple {a : Addr} {o : Obj} {us : List Value} {n : Nat} {ds : List PyData} (e1 : s.heap.get? a = some o) (e2 : o.cls = .type "tuple") (e3 : o.data = .seq us.toArray n) (R : Rks X.prog X.w s.heap ds us) : Rk X.prog X.w s.heap (.tuple ds) (.ref a) := by
  obtain ⟨⟨as, ra⟩, ks⟩ := R
  have r : Reads s.heap (.ref a) (.tuple ds) as := .tuple e1 e2 e3 (by simpa using ra)
  refine ⟨⟨_, r⟩, fun sh sz => ?_⟩
  have sz' : (tupleText (PyData.shownAll ds)).length ≤ sizeLine := by simpa only [PyData.shown] using sz
  obtain ⟨bs, m, k⟩ := ks (by simpa [PyData.showable] using sh) fun t ht => Nat.le_trans (tupleText_mem_le ht) sz'
  refine ⟨a :: bs, .cons r (by simp only [PyData.depth]; omega) m, ?_⟩
  have out : a ∉ bs := not_mem_of_deeper r (by simp only [PyData.depth]; omega) m
  simp only [PyData.shown, PyData.depth]
  exact ReprK.tuple e1 e2 e3 out (by simpa using k)
theorem rk_dict {a : Addr} {kvs : List (Key × V)} {ds : List PyData} {kd : List (PyData × PyData)} (I : L2.Inv X pins σ H s) (ha : H a = some (.dK kvs)) (hl : kvs.length = ds.length) (hk : kd = (kvs.map fun kv => keyD kv.1).zip ds) (R : ∀ us, Vals (kvs.map (·.2)) us → Rks X.prog X.w s.heap ds us) : Rk X.prog X.w s.heap (.dict kd) (.ref a) := by
  obtain ⟨z, sys, vs, rel, o, es, ep, ho, hex, hd, hkeys, hpairs, hnd⟩ := dk_of I.hok ha
  obtain ⟨⟨as, rk⟩, rv⟩ := ent_of (h := s.heap) rel hpairs
  obtain ⟨⟨bs, rb⟩, ks⟩ := R _ rv
  have hlen : (kvs.map fun kv => keyD kv.1).length = ds.length := by rw [List.length_map, hl]
  have f1 := zip_fstD hlen
  have f2 := zip_sndD hlen
  rw [← hk] at f1 f2
  have nk := keyD_noDict (kvs.map (·.1))
  rw [List.map_map] at nk
  have nk : PyData.hasDictAll (kvs.map fun kv => keyD kv.1) = false := nk
  rw [← f1] at rk nk
  rw [← f2] at rb ks
  have r : Reads s.heap (.ref a) (.dict kd) (a :: as ++ bs) := .dict ho hex.1 hd rk rb
  refine ⟨⟨_, r⟩, fun sh sz => ?_⟩
  have sz' : (dictText (PyData.shownKv kd)).length ≤ sizeLine := by simpa only [PyData.shown] using sz
  obtain ⟨h1, h2⟩ := PyData.showableKv_split kd (by simpa [PyData.showable] using sh)
  obtain ⟨b1, m1, k1⟩ := ReprAllK.of_readsAll (prog := X.prog) (w := X.w) rk h1 (fun q => by rw [nk] at q; cases q) fun t ht => by
    obtain ⟨p, hp, le⟩ := PyData.shownKv_key_le kd t ht
    exact Nat.le_trans le (Nat.le_trans (dictText_mem_le hp) sz')
  obtain ⟨b2, m2, k2⟩ := ks h2 fun t ht => by
    obtain ⟨p, hp, le⟩ := PyData.shownKv_val_le kd t ht
    exact Nat.le_trans le (Nat.le_trans (dictText_mem_le hp) sz')
  have m : ReadAtMost s.heap (PyData.depthKv kd) (b1 ++ b2) := (m1.mono (PyData.depthAll_keys_le kd)).append (m2.mono (PyData.depthAll_vals_le kd))
  have out : a ∉ b1 ++ b2 := not_mem_of_deeper r (by simp only [PyData.depth]; omega) m
  refine ⟨a :: (b1 ++ b2), .cons r (by simp only [PyData.depth]; omega) m, ?_⟩
  simp only [PyData.shown, PyData.depth, PyData.shownKv_eq]
  refine ReprK.dict ho hex.1 hd sys out (ReprEntriesK.of_two es.toList _ _ (k1.more_le (fun b q => ?_) (PyData.depthAll_keys_le kd)) (k2.more_le (fun b q => ?_) (PyData.depthAll_vals_le kd)))
  · exact List.mem_append_left _ q
  · exact List.mem_append_right _ q
theorem rks_cons {d : PyData} {ds : List PyData} {u : Value} {us : List Value} (h : Rk X.prog X.w s.heap d u) (t : Rks X.prog X.w s.heap ds us) : Rks X.prog X.w s.heap (d :: ds) (u :: us) := by
  obtain ⟨⟨as, r⟩, k⟩ := h
  obtain ⟨⟨bs, rs⟩, ks⟩ := t
  refine ⟨⟨_, .cons r rs⟩, fun sh sz => ?_⟩
  obtain ⟨s1, s2⟩ : d.showable = true ∧ PyData.showableAll ds = true := by simpa [PyData.showableAll] using sh
  obtain ⟨b1, m1, k1⟩ := k s1 (sz _ (by simp only [PyData.shownAll]; exact List.mem_cons_self))
  obtain ⟨b2, m2, k2⟩ := ks s2 fun t ht => sz t (by simp only [PyData.shownAll]; exact List.mem_cons_of_mem _ ht)
  have l1 : d.depth ≤ PyData.depthAll (d :: ds) := by simp only [PyData.depthAll]; exact Nat.le_max_left _ _
  have l2 : PyData.depthAll ds ≤ PyData.depthAll (d :: ds) := by simp only [PyData.depthAll]; exact Nat.le_max_right _ _
  refine ⟨b1 ++ b2, (m1.mono l1).append (m2.mono l2), ?_⟩
  simp only [PyData.shownAll]
  exact .cons ((k1.more fun b q => List.mem_append_left _ q).level_le l1) (k2.more_le (fun b q => List.mem_append_right _ q) l2)
theorem rk_of (I : L2.Inv X pins σ H s) {v : V} {d : PyData} (h : DpD X.K H v d) : ∀ u, RelV v u → Rk X.prog X.w s.heap d u := by
  induction h using DpD.rec (motive_2 := fun vs ds _ => ∀ us, Vals vs us → Rks X.prog X.w s.heap ds us) with
  | @data v d h =>
    intro u r
    obtain ⟨as, rd⟩ := Dp.reads I d _ _ h r
    refine ⟨⟨as, rd⟩, fun sh sz => ReprK.of_reads rd sh (fun q => ?_) sz⟩
    rw [dp_noDict h] at q
    cases q
  | @lst a xs ds hq hs ih =>
    intro u r
    cases r
    obtain ⟨its, rv, pl, _⟩ := I.list hq
    obtain ⟨o, ho, hc, n, hd⟩ := pl.isList
    exact rk_list ho hc hd (ih _ rv)
  | @tup a xs ds hq hs ih =>
    intro u r
    cases r
    obtain ⟨its, rv, ⟨o, ho, hc, n, hd⟩, _⟩ := I.tuple hq
    exact rk_tuple ho hc hd (ih _ rv)
  | @dct a kvs ds kd ha hs hk ih =>
    intro u r
    cases r
    exact rk_dict I ha (by rw [← hs.len, List.length_map]) hk ih
  | nil =>
    rename_i us r
    cases r
    exact ⟨⟨_, .nil⟩, fun _ _ => ⟨[], (fun _ q => nomatch q), .nil⟩⟩
  | cons h t ih it =>
    rename_i us r
    cases r with
    | cons r1 r2 => exact rks_cons (ih _ r1) (it _ r2)
/-- repr(l), l a list of data -/
def rReprD (K : PySem.W.Frag) : List V → Hp → VK → Prop := fun xs H Q => ∃ (a : Addr) (vs : List V) (ds : List PyData), xs = [.ref a] ∧ SqL K H a vs ∧ DpDs K H vs ds ∧ (PyData.list ds).showable = true ∧ (PyData.list ds).shown.length ≤ sizeLine ∧ (PyData.list ds).depth ≤ 50 ∧ Q (.str (PyData.list ds).shown) H
theorem rks_of (I : L2.Inv X pins σ H s) : ∀ {vs : List V} {ds : List PyData} {us : List Value}, DpDs X.K H vs ds → Vals vs us → Rks X.prog X.w s.heap ds us
  | _, _, _, .nil, .nil => ⟨⟨_, .nil⟩, fun _ _ => ⟨[], (fun _ q => nomatch q), .nil⟩⟩
  | _, _, _, .cons h t, .cons r1 r2 => rks_cons (rk_of I h _ r1) (rks_of I t r2)
theorem call_reprDs {k : Nat} (hr : Room k X.A) (hG : X.A.guards = some []) : CallR X (.builtin "repr") (rReprD X.K) := by
  intro pins s σ H xs us Q I r h
  obtain ⟨a, vs, ds, rfl, hl, hd, sh, sz, dp, q⟩ := h
  rw [Vals.ref1 r]
  obtain ⟨its, rv, pl, _⟩ := I.list hl
  obtain ⟨o, ho, hc, n, hda⟩ := pl.isList
  obtain ⟨⟨as, ra⟩, ks⟩ := rks_of I hd rv
  have rr : Reads s.heap (.ref a) (.list ds) (a :: as) := .list ho hc hda (by simpa using ra)
  have sz' : (listText (PyData.shownAll ds)).length ≤ sizeLine := by simpa only [PyData.shown] using sz
  obtain ⟨bs, m, kk⟩ := ks (by simpa [PyData.showable] using sh) fun t ht => Nat.le_trans (listText_mem_le ht) sz'
  have out : a ∉ bs := not_mem_of_deeper rr (by simp only [PyData.depth]; omega) m
  have hu := hr.units
  have ty : s.TypeIs (.ref a) "list" := ⟨o, ho, hc⟩
  simp only [PyData.depth] at dp
  simp only [PyData.shown] at q
  refine call_repr_slot (by omega) ty F.slot_list_repr.toG ?_
  cases its with
  | nil =>
    cases ra
    simp only [PyData.shownAll, listText_nil] at q
    exact call_list_repr_empty ty ho hda ⟨_, _, rfl, .str _, H, I.tok _, ⟨_, rfl⟩, q⟩
  | cons x l =>
    refine call_list_reprK ho hc hda out (by simpa using kk.length_eq) (fun i y e => kk.item i y (by simpa using e)) hG (fun b _ => Clear.nil b) ?_ (fun _ _ e => e) (fun h' u tk hk => ⟨_, _, rfl, .str _, H, I.kept hk, ⟨_, rfl⟩, q⟩) sz'
    show X.A.units + 1 + (PyData.depthAll ds + 1) < cLine
    omega
theorem call_reprDsK {k : Nat} {K : PySem.W.Frag} (h : X.K = K) (hr : Room k X.A) (hG : X.A.guards = some []) : CallR X (.builtin "repr") (rReprD K) := h ▸ call_reprDs hr hG
end
end L3
/-! set(list of bools), sorted of it. -/
namespace L3
open PySem PySem.Spec PyProof.Rows L2 PpSet
/-- what has come -/
def memB (val : Nat → Bool) (i : Nat) (b : Bool) : Bool := (List.range i).any fun j => val j == b
theorem memB_succ (val : Nat → Bool) (i : Nat) (b : Bool) : memB val (i + 1) b = (memB val i b || decide (b = val i)) := by
  unfold memB
  rw [List.range_succ, List.any_append]
  congr 1
  cases h : val i <;> cases b <;> simp [h]
theorem memB_all (bs : List Bool) (b : Bool) : memB (fun i => bs.getD i false) bs.length b = decide (b ∈ bs) := by
  rw [Bool.eq_iff_iff, decide_eq_true_iff]
  unfold memB
  rw [List.any_eq_true]
  constructor
  · rintro ⟨j, hj, e⟩
    have hj := List.mem_range.mp hj
    have e : bs.getD j false = b := eq_of_beq e
    rw [List.getD_eq_getElem?_getD, List.getElem?_eq_getElem hj] at e
    rw [← e]
    exact List.getElem_mem hj
  · intro h
    obtain ⟨j, hj, e⟩ := List.getElem_of_mem h
    refine ⟨j, List.mem_range.mpr hj, ?_⟩
    show (bs.getD j false == b) = true
    rw [List.getD_eq_getElem?_getD, List.getElem?_eq_getElem hj, Option.getD_some, e]
    exact beq_self_eq_true b
section
variable {prog : Program} {w : World} {A : Around} {R : Result → Shared → Prop} {I : Addr} {fp wr : List Addr} {G : Array GenState → Array GenState → Prop} {n : Nat} {P : Nat → Value → Prop} {St : Nat → Shared → Prop}
theorem set_loopB (W : WalksS prog w A.in1 I fp wr G n P St) (S : Addr) (hSf : S ∉ fp) (val : Nat → Bool) (hval : ∀ i v, P i v → v = Value.bool (val i)) (hb : n + 1 < scanBound) :
    ∀ (k i c : Nat) (s : Shared), n - i = k → i ≤ n → c ≤ i → St i s → SetB w s.heap S (memB val i) c →
      (∀ s' c, c ≤ n → Moved (S :: wr) G s s' → SetB w s'.heap S (memB val n) c → R (.ok (.ret .none)) s') →
      codeAny (model prog w) A (.builtin "set.update.loop" ⟨[.ref S, .ref I], []⟩) R s := by
  have hSw : S ∉ wr := fun h => hSf (W.sub _ h)
  have sub : ∀ b ∈ wr, b ∈ S :: wr := fun b hb => List.mem_cons_of_mem _ hb
  intro k
  induction k with
  | zero =>
    intro i c s hk hi hc hst hS hR
    obtain rfl : i = n := by omega
    refine codeAny_builtin PyProof.Rows.F.entry_set_update_loop ?_
    rw [Around.under_plainId PyProof.Rows.F.plain_set_update_loop _]
    show wpAny _ A.in1 (pyNext (.ref I) >>= _) _ _ s
    refine wpAny_bind (W.done s _ _ hst fun s' hm => ?_)
    show wpAny _ A.in1 (ret Value.none) _ _ s'
    exact wpAny_pure (hR s' c hc (hm.mono sub) (hS.at fun o ho => hm.heap S _ hSw ho))
  | succ k ih =>
    intro i c s hk hi hc hst hS hR
    have hlt : i < n := by omega
    refine codeAny_builtin PyProof.Rows.F.entry_set_update_loop ?_
    rw [Around.under_plainId PyProof.Rows.F.plain_set_update_loop _]
    show wpAny _ A.in1 (pyNext (.ref I) >>= _) _ _ s
    refine wpAny_bind (W.item i s _ _ hlt hst fun v s' hP hst' hm => ?_)
    obtain rfl := hval i v hP
    have hS' : SetB w s'.heap S (memB val i) c := hS.at fun o ho => hm.heap S _ hSw ho
    show wpAny _ A.in1 (holding [Value.bool (val i)] (setAdd S (.bool (val i))) >>= _) _ _ s'
    refine wpAny_bind (wpAny_holding ?_)
    unfold setAdd
    refine wpAny_holding ?_
    refine wpAny_bind ((boolK prog w).pyHash (k := val i) (boolK_is prog w _) ?_)
    refine setB_add_hashed (P := prog) (s := { s' with toks := s'.toks + 1 }) hS' (by omega) fun h' sb hS2 => ?_
    have hS3 := hS2.congr (S' := memB val (i + 1)) fun b => memB_succ val i b
    refine wpAny_pure ⟨plainId_quiet PyProof.Rows.F.plain_set_update_loop _, ih (i + 1) _ _ (by omega) hlt (by split <;> omega) (W.frame _ s' _ _ hst' (Nat.le_succ _) fun b hb o e => ?_) hS3 fun s'' c'' hc'' hm'' hS'' => ?_⟩
    · rw [sb.2 b (fun h : b = S => hSf (by rw [← h]; exact hb))]; exact e
    · refine hR s'' c'' hc'' (Moved.trans W.gtrans ((hm.mono sub).then_heap (Nat.le_succ _) fun b o hb e => ?_) hm'') hS''
      rw [sb.2 b (fun h : b = S => hb (by rw [h]; exact List.mem_cons_self))]; exact e
end
section
variable {P : Program} {w : World} {A : Around} {E : Value → Shared → Prop} {s : Shared}
set_option maxHeartbeats 8000000 in
/-- set(list of bools) -/
theorem call_set_bools {l : Addr} {items : Array Value} (bs : List Bool) {Q : Value → Shared → Prop} (hh : A.handled = none) (hl : s.heap.IsList l items) (hit : items.toList = bs.map Value.bool) (hb : bs.length + 1 < scanBound)
    (h : ∀ (h' : Heap) (tk c : Nat), SetB w h' s.heap.objs.size (fun b => decide (b ∈ bs)) c → (∀ b o, s.heap.get? b = some o → h'.get? b = some o) → Q (.ref s.heap.objs.size) { s with heap := h', toks := tk }) :
    wpAny (model P w) A (call (.type "set") [.ref l]) Q E s := by
  have hisz : items.size = bs.length := by
    have q := congrArg List.length hit
    rw [Array.length_toList, List.length_map] at q
    exact q
  obtain ⟨c, tl, hmro⟩ := PySem.F.called_set.mro
  have hmade := PySem.F.called_set.made
  have hsub := PySem.F.called_set.sub
  refine wpAny_call (codeAny_of_tree ?_)
  show wpAny _ _ (callAny (.type "set") _) _ _ _
  refine wpAny_pure ⟨Code.quiet_builtin _ (by decide +kernel), codeAny_builtin PySem.F.entry_type_call ?_⟩
  rw [Around.under_plain (weight_type_call_type "set" [.ref l] []) rfl]
  have h1 := PySem.F.called_set.notType
  have h2 := PySem.F.called_set.canCreate
  have hct := PySem.F.typeCall_set_1 (.ref l)
  repeat (any_goals (first | assumption | wp_step))
  refine codeAny_mono (L3.code_set_led1 (.ref l) (E := E) (Q₁ := fun obj s₁ => obj = .ref s.heap.objs.size ∧ s₁ = { s with heap := s.heap.push { cls := .type "set", dict := none, data := .set #[] 0 (.fresh 0 0 (!w.params.followText "set-order")) } }) ⟨rfl, rfl⟩) fun r s₁ hr => ?_
  cases r with
  | error e => exact hr
  | ok fl =>
    cases fl with
    | ret obj =>
      obtain ⟨rfl, rfl⟩ := hr
      have hS : (s.heap.push { cls := .type "set", dict := none, data := .set #[] 0 (.fresh 0 0 (!w.params.followText "set-order")) }).get? s.heap.objs.size = some { cls := .type "set", dict := none, data := .set #[] 0 (.fresh 0 0 (!w.params.followText "set-order")) } := Heap.get?_push_size _ rfl
      have hT : Shared.TypeIs { s with heap := s.heap.push { cls := .type "set", dict := none, data := .set #[] 0 (.fresh 0 0 (!w.params.followText "set-order")) } } (.ref s.heap.objs.size) "set" := ⟨_, hS, rfl⟩
      have hli := PySem.F.called_set.init.lookup
      have hbi := PySem.F.called_set.init.bind (.ref s.heap.objs.size)
      repeat (any_goals (first | assumption | wp_step))
      refine codeAny_mono (codeAny_call_builtin (R := wants (fun r s₂ => r = .none ∧ ∃ h' tk c, s₂ = { s with heap := h', toks := tk } ∧ SetB w h' s.heap.objs.size (fun b => decide (b ∈ bs)) c ∧
          (∀ b o, s.heap.get? b = some o → h'.get? b = some o)) E) PySem.F.called_set.init.plain PySem.F.entry_set_init (PySem.check_set_init_1 hT ?_)) fun r₂ s₂ hr₂ => ?_
      · obtain ⟨ol, hol, hcl, nl, hdl⟩ := hl
        obtain ⟨ocls, odict, odata, oslots⟩ := ol
        simp only at hcl hdl
        subst hcl; subst hdl
        have hol' : (s.heap.push { cls := .type "set", dict := none, data := .set #[] 0 (.fresh 0 0 (!w.params.followText "set-order")) }).get? l = some { cls := .type "list", dict := odict, data := .seq items nl, slots := oslots } := Heap.get?_push_of_some _ hol
        have hsls := PySem.F.sub_list_set
        have hslf := PySem.F.sub_list_frozenset
        have hne : (Value.type "list" == Value.type "dict") = false := by decide
        have hl1 : (s.heap.push { cls := .type "set", dict := none, data := .set #[] 0 (.fresh 0 0 (!w.params.followText "set-order")) }).IsList l items := ⟨_, hol', rfl, nl, rfl⟩
        unfold Builtin.«set.__init__» noKeywords Builtin.Frozenset.updateFrom
        generalize hPI : pyIter = PI
        wp_walk
        subst hPI
        refine wpAny_pyIter_list hl1 ?_
        refine wpAny_bind (wpAny_runValue ?_)
        have hlS : l < s.heap.objs.size := Heap.lt_size hol
        have hh3 : A.in1.in1.in1.handled = none := by simp [hh]
        have hneI : l ≠ (s.heap.push { cls := .type "set", dict := none, data := .set #[] 0 (.fresh 0 0 (!w.params.followText "set-order")) }).objs.size := by
          rw [Heap.size_push]; exact Nat.ne_of_lt (Nat.lt_succ_of_lt hlS)
        have hSf : s.heap.objs.size ∉ [(s.heap.push { cls := .type "set", dict := none, data := .set #[] 0 (.fresh 0 0 (!w.params.followText "set-order")) }).objs.size, l] := by
          rw [Heap.size_push]; simp only [List.mem_cons, List.mem_singleton, List.not_mem_nil, or_false, not_or]
          exact ⟨Nat.ne_of_lt (Nat.lt_succ_self _), Nat.ne_of_gt hlS⟩
        have hval : ∀ (i : Nat) (v : Value), items[i]? = some v → v = Value.bool (bs.getD i false) := fun i v hv => by
          have q : items.toList[i]? = some v := by rw [Array.getElem?_toList]; exact hv
          rw [hit, List.getElem?_map] at q
          cases hq : bs[i]? with
          | none => rw [hq] at q; cases q
          | some p =>
            rw [hq] at q
            rw [List.getD_eq_getElem?_getD, hq]
            exact (Option.some.inj q).symm
        refine set_loopB ((Walks.list hh3 _ l hneI items).toS) s.heap.objs.size hSf (fun i => bs.getD i false) hval (by rw [hisz]; exact hb) (items.size - 0) 0 0 _ (by omega) (Nat.zero_le _) (Nat.le_refl _)
          ⟨⟨_, Heap.get?_push_size _ rfl, rfl, rfl⟩, (hl1.push _)⟩ ?hS0 ?hR
        case hS0 =>
          exact ((setB_fresh w).congr fun k => rfl).at fun o ho => Heap.get?_push_of_some _ ho
        case hR =>
          intro s' c hc hm hS'
          obtain ⟨h', g2, d', tk', os'⟩ := s'
          have eg : g2 = s.gens := hm.gens
          have ed : d' = s.drawn := hm.drawn
          have eo : os' = s.os := hm.os
          subst eg; subst ed; subst eo
          show wpAny _ _ _ _ _ _
          refine wpAny_pure ?_
          show wpAny _ _ (ret Value.none) _ _ _
          rw [hisz] at hS'
          refine wpAny_pure ⟨rfl, h', tk', c, rfl, hS'.congr fun k => (memB_all bs k).symm, fun b o e => ?_⟩
          have hlt := Heap.lt_size e
          refine hm.heap b o (fun z => ?_) (Heap.get?_push_of_some _ (Heap.get?_push_of_some _ e))
          simp only [List.mem_cons, List.not_mem_nil, or_false] at z
          rcases z with z | z
          · exact absurd z (Nat.ne_of_lt hlt)
          · rw [Heap.size_push] at z
            exact absurd z (Nat.ne_of_lt (Nat.lt_succ_of_lt hlt))
      · cases r₂ with
        | error e => exact hr₂
        | ok fl₂ =>
          cases fl₂ with
          | ret r =>
            obtain ⟨rfl, h', tk, c, rfl, hS', hk'⟩ := hr₂
            repeat (any_goals (first | assumption | wp_step))
            exact h _ _ _ hS' hk'
          | _ => exact hr₂.elim
    | _ => exact hr.elim
end
/-! ### sorted -/
@[reducible] def bKind : PyProof.Rows.KeyKind where
  α := Bool
  blt a b := !a && b
  irrefl a := by cases a <;> rfl
  trans a b c h1 h2 := by revert h1 h2; cases a <;> cases b <;> cases c <;> decide
  negTrans a b c h := by revert h; cases a <;> cases b <;> cases c <;> decide
  total a b h1 h2 := by revert h1 h2; cases a <;> cases b <;> decide
  keyOf v := match v with | .bool b => some b | _ => none
  dflt := false
theorem slot_bool_lt : Slot "bool" (cmpInfo .Lt).2.1 "int.__lt__" :=
  .of (owner := "int") (n := "__lt__") (by rw [typeLookup_type, builtinLookup_eq_fast]; kernel_rfl) (by decide +kernel) (by decide +kernel) (by decide +kernel)
    (by first | exact .inl (by decide +kernel) | exact .inr (by decide +kernel)) (by rw [isSubtype_type]; kernel_rfl)
theorem call_bool_lt {prog : Program} {w : World} {A : Around} {E : Value → Shared → Prop} {s : Shared} {a b : Bool} {Q : Value → Shared → Prop} (h : Q (.bool (!a && b)) s) :
    wpAny (model prog w) A (call (.builtin "int.__lt__") [.bool a, .bool b]) Q E s := by
  refine wpAny_call_entry slot_bool_lt (PyProof.Rows.typeIs_bool s a) entry_int_lt ?_ (args_int_lt _ _)
  show wpAny _ _ (ret (.bool (decide ((if a = true then (1 : Int) else 0) < (if b = true then (1 : Int) else 0))))) _ _ s
  refine wpAny_pure ⟨_, rfl, ?_⟩
  have e : decide ((if a = true then (1 : Int) else 0) < (if b = true then (1 : Int) else 0)) = (!a && b) := by cases a <;> cases b <;> decide
  rw [e]
  exact h
theorem bKind_oneLt : bKind.OneLt := by
  intro prog w A E s x y a b Q ha hb h
  cases x <;> simp only [bKind, reduceCtorEq, Option.some.injEq] at ha
  cases y <;> simp only [bKind, reduceCtorEq, Option.some.injEq] at hb
  cases ha; cases hb
  rw [oneLt'_eq]
  simp only [if_true]
  refine wpAny_bind (wpAny_cRoomFor_byValue rfl ?_)
  refine wpAny_bind (wpAny_callSpecialIfBound?_slot (PyProof.Rows.typeIs_bool s a) slot_bool_lt (call_bool_lt ?_))
  exact wpAny_truthy_bool h
theorem mapM_first_bools : ∀ bs : List Bool, (bs.map Value.bool).mapM firstOfTuple' = pure ((bs.map Value.bool).map fun _ => none)
  | [] => by simp
  | b :: bs => by
    rw [List.map_cons, List.mapM_cons, mapM_first_bools bs]
    show (pure none >>= _) = _
    simp
theorem mapM_typeOf_bools : ∀ bs : List Bool, (bs.map Value.bool).mapM typeOf = pure ((bs.map Value.bool).map fun _ => Value.type "bool")
  | [] => by simp
  | b :: bs => by
    rw [List.map_cons, List.mapM_cons, mapM_typeOf_bools bs]
    show (pure (Value.type "bool") >>= fun b => pure _ >>= fun bs => pure (b :: bs)) = _
    simp
theorem keyKind_bools {v₁ v₂ : Value} {vs : List Value} {bs : List Bool} (hS : v₁ :: v₂ :: vs = bs.map Value.bool) : keyKind' (v₁ :: v₂ :: vs).toArray = pure oneType' := by
  rw [keyKind'_eq, List.mapM_toArray, hS, mapM_first_bools, ← hS]
  simp only [map_pure, pure_bind]
  rw [if_neg (by simp), if_neg (by simp)]
  rw [oneTypeOnly'_eq, List.mapM_toArray, hS, mapM_typeOf_bools, ← hS]
  simp only [map_pure, pure_bind]
  have hall : ((List.map (fun _ => Value.type "bool") (v₁ :: v₂ :: vs)).toArray.all fun x => x == Value.type "bool") = true := by
    simp only [List.all_toArray, List.all_map, List.all_eq_true]
    intro _ _
    rfl
  have h0 : (List.map (fun _ => Value.type "bool") (v₁ :: v₂ :: vs)).toArray[0]? = some (Value.type "bool") := by simp
  rw [h0]
  simp only [hall, if_true, pure_bind, Option.isSome_some]
def bOf : Value → Bool | .bool b => b | _ => false
/-- the sorted list of what is in -/
def canonB (S : Bool → Bool) : List Bool := (if S false = true then [false] else []) ++ (if S true = true then [true] else [])
theorem canon_of {rs : List Bool} {S : Bool → Bool} (hd : rs.Nodup) (hp : rs.Pairwise fun a b => (!b && a) = false) (hS : ∀ b, S b = true ↔ b ∈ rs) : rs = canonB S := by
  have e : ∀ b, S b = decide (b ∈ rs) := fun b => by rw [Bool.eq_iff_iff, hS, decide_eq_true_iff]
  unfold canonB
  rw [e, e]
  match rs, hd, hp with
  | [], _, _ => rfl
  | [a], _, _ => cases a <;> decide
  | [a, b], hd, hp => cases a <;> cases b <;> simp at hd hp ⊢
  | a :: b :: c :: l, hd, _ => cases a <;> cases b <;> cases c <;> simp at hd
section
variable {P : Program} {w : World} {A : Around} {E : Value → Shared → Prop} {s : Shared} {a : Addr} {S : Bool → Bool} {n : Nat}
theorem sorted_setB {Q : Value → Shared → Prop} (R : SetB w s.heap a S n) (hh : A.handled = none)
    (hQ : ∀ s' p (out : Array Value) (c : Nat), (∀ b o, s.heap.get? b = some o → s'.heap.get? b = some o) → s'.gens = s.gens → s'.os = s.os → s.heap.objs.size ≤ p →
      s'.heap.get? p = some (seqObj "list" out c) → out.toList = (canonB S).map Value.bool → Q (.ref p) s') :
    wpAny (model P w) A (call (.builtin "sorted") [.ref a]) Q E s := by
  obtain ⟨o, es, ep, t, ho, hex, hd, g, nd, hm, hb, hf, hn, hr, hl⟩ := R
  refine Calls.call_function_entry kind_sorted plain_sorted entry_sorted (args_sorted1 _) ?_
  unfold Builtin.«sorted»
  refine wpAny_bind (m := checkCount "sorted" 1 1 _) (wpAny_pure ?_)
  refine wpAny_bind (collect_set (A := A.in1) hh ⟨o, ho, hex.1, hd⟩ hf hb hr hl fun s1 vs k1 hz g1 o1 pm => ?_)
  have hvl : vs.length = es.size := by rw [pm.length_eq, List.length_map, Array.length_toList]
  have hvB : vs = (vs.map bOf).map Value.bool := by
    rw [List.map_map]
    conv => lhs; rw [← List.map_id vs]
    refine List.map_congr_left fun v hv => ?_
    obtain ⟨e, he, q⟩ := List.mem_map.mp (pm.mem_iff.mp hv)
    obtain ⟨k, hk, _⟩ := g e he
    rw [← q, hk]
    rfl
  have pk : (vs.map bOf).Perm (es.toList.map keyB) := by
    refine (pm.map bOf).trans ?_
    rw [List.map_map]
    refine List.Perm.of_eq (List.map_congr_left fun e he => ?_)
    obtain ⟨k, hk, _⟩ := g e he
    show bOf e.2 = keyB e
    unfold keyB
    rw [hk]
    rfl
  have hL : vs.length ≤ sizeLine := by rw [hvl]; exact fits_of_scanBound hb
  refine wpAny_bind (wpAny_newList ?_ hL)
  have hoL : (s1.heap.push (seqObj "list" vs.toArray 0)).get? s1.heap.objs.size = some (seqObj "list" vs.toArray 0) := Heap.get?_push_size _ rfl
  have hko : KeysOf bKind (pairsOf vs) := fun p hp => by
    rw [pairsOf_toList] at hp
    have hv := (mem_zip_self hp).2
    rw [hvB] at hv
    obtain ⟨b, _, e⟩ := List.mem_map.mp hv
    exact ⟨b, by rw [← e]⟩
  refine wpAny_bind (wpAny_holding (wpAny_call_entry slot_list_sort ⟨_, hoL, rfl⟩ entry_list_sort (list_sort_treeKAny bKind_oneLt hoL hko (fun v₁ v₂ rest e => keyKind_bools (bs := vs.map bOf) (by rw [← hvB, e])) hL fun st' hp hs => ⟨_, rfl, ?_⟩) (args_list_sort _)))
  -- what comes out
  have hlp : (arrOf st').toList.Perm (vs.zip vs) := by rw [← pairsOf_toList]; exact Array.perm_iff_toList_perm.mp hp
  have hmem : ∀ p, p ∈ (arrOf st').toList → p.1 = p.2 ∧ p.1 ∈ vs := fun p hp' => mem_zip_self (hlp.mem_iff.mp hp')
  have hmB : ∀ v ∈ vs, v = Value.bool (bOf v) := fun v hv => by
    rw [hvB] at hv
    obtain ⟨b, _, rfl⟩ := List.mem_map.mp hv
    rfl
  have e1 : ((arrOf st').map (·.2)).toList = ((arrOf st').toList.map fun p => bOf p.1).map Value.bool := by
    rw [Array.toList_map, List.map_map]
    refine List.map_congr_left fun p hp' => ?_
    obtain ⟨h1, h2⟩ := hmem p hp'
    show p.2 = Value.bool (bOf p.1)
    rw [← hmB _ h2, h1]
  have e2 : ((arrOf st').toList.map fun p => bOf p.1).Perm (es.toList.map keyB) := by
    refine List.Perm.trans ?_ pk
    have h1 := hlp.map (fun p => bOf p.1)
    have e2 : (vs.zip vs).map (fun p => bOf p.1) = vs.map bOf := by
      have : (vs.zip vs).map (fun p => bOf p.1) = ((vs.zip vs).map Prod.fst).map bOf := by rw [List.map_map]; rfl
      rw [this, List.map_fst_zip (Nat.le_refl _)]
    rwa [e2] at h1
  have e3 : ((arrOf st').toList.map fun p => bOf p.1).Pairwise fun a b => (!b && a) = false := by
    rw [List.pairwise_iff_getElem]
    intro i j hi hj hij
    have hi' : i < (arrOf st').size := by simpa using hi
    have hj' : j < (arrOf st').size := by simpa using hj
    have h1 := hs i j (Nat.le_of_lt hij) (by rw [← hp.size_eq]; exact hj')
    have kk : ∀ (i : Nat) (hi : i < (arrOf st').size), KK bKind (arrOf st') i = bOf ((arrOf st')[i]).1 := fun i hi => by
      unfold KK
      rw [getElem?_pos _ i hi]
      have := hmB _ (hmem ((arrOf st')[i]) (by simp)).2
      show (bKind.keyOf ((arrOf st')[i]).1).getD false = _
      generalize ((arrOf st')[i]).1 = z at this ⊢
      rw [this]
      rfl
    have h1 : (!(KK bKind (arrOf st') j) && KK bKind (arrOf st') i) = false := h1
    rw [kk i hi', kk j hj'] at h1
    simpa using h1
  have hc := canon_of (S := S) ((e2.nodup_iff).mpr nd) e3 fun b => by rw [hm, e2.mem_iff]
  rw [hc] at e1
  obtain ⟨c, hcc⟩ := sortedHeap_at (vs := vs) (out := (arrOf st').map (·.2)) hoL
  refine wpAny_pure ⟨_, rfl, hQ _ s1.heap.objs.size _ c (fun b u e => ?_) g1 o1 hz hcc e1⟩
  have q := k1 b u e
  have hlt := Heap.lt_size q
  show (sortedHeap (s1.heap.push (seqObj "list" vs.toArray 0)) s1.heap.objs.size vs _).get? b = some u
  rw [sortedHeap_old (Nat.ne_of_lt hlt) (by rw [size_push']; exact Nat.lt_succ_of_lt hlt)]
  exact Heap.get?_push_of_some _ q
end
theorem vals_bools : ∀ bs : List Bool, Vals (bs.map V.bl) (bs.map Value.bool)
  | [] => .nil
  | b :: bs => .cons rfl (vals_bools bs)
theorem bools_of_vals : ∀ {bs : List Bool} {us : List Value}, Vals (bs.map V.bl) us → us = bs.map Value.bool
  | [], _, .nil => rfl
  | b :: bs, _, .cons h t => by
    rw [bools_of_vals t]
    obtain rfl := h
    rfl
section
variable {X : Cx}
/-- set(list of bools) -/
theorem cr_setB (hc : X.calm = true) : CallR X (.type "set") (fun xs H Q => ∃ (l : Addr) (bs : List Bool), xs = [.ref l] ∧ SqL X.K H l (bs.map V.bl) ∧ bs.length ≤ 4000 ∧ ∀ p c, H p = none → Q (.ref p) (upd H p (SetBO X.w p (fun b => decide (b ∈ bs)) c))) := by
  intro pins s σ H xs us Q I r h
  obtain ⟨l, bs, rfl, hl, hz, q⟩ := h
  rw [Vals.ref1 r]
  obtain ⟨its, rv, pl, _⟩ := I.list hl
  refine call_set_bools (P := X.prog) (w := X.w) bs (I.ok.hd hc) pl.isList (by simpa using bools_of_vals rv) (by unfold scanBound; omega) fun h' tk c hS hk => ?_
  exact ⟨.ref _, _, I.laid (t' := tk) (fun b o e => hk b o e) (Nat.le_refl _) (setBO_new hS), rfl, q _ c (I.hok.fresh (Nat.le_refl _))⟩
/-- sorted(set of bools) -/
theorem cr_sortSetB (hc : X.calm = true) : CallR X (.builtin "sorted") (fun xs H Q => ∃ (a : Addr) (S : Bool → Bool) (c : Nat), xs = [.ref a] ∧ H a = some (SetBO X.w a S c) ∧ ∀ p, H p = none → Q (.ref p) (upd H p (.lst ((canonB S).map V.bl)))) := by
  intro pins s σ H vs us Q I r h
  obtain ⟨a, S, n, rfl, ha, q⟩ := h
  have R : SetB X.w s.heap a S n := (I.hok a _ ha).1
  rw [Vals.ref1 r]
  refine sorted_setB R (I.ok.hd hc) fun s' p out c k g o hp hg ho => ?_
  have hn : H p = none := I.hok.fresh hp
  have hL : ((canonB S).map V.bl).length ≤ sizeLine := by
    have : (canonB S).length ≤ 2 := by
      unfold canonB
      split <;> split <;> decide
    rw [List.length_map, sizeLine_eq]
    omega
  have J : Inv X pins σ (upd H p (.lst ((canonB S).map V.bl))) { s with heap := s'.heap, gens := s'.gens, drawn := s'.drawn, toks := s'.toks } :=
    I.call (ch := []) (Un.laid k hp hn) (I.hok.laid k hp ⟨hL, out.toList, c, by rw [ho]; exact vals_bools _, hg⟩) (by rw [g]; exact I.bare) (fun _ z => nomatch z)
  have e : s' = { s with heap := s'.heap, gens := s'.gens, drawn := s'.drawn, toks := s'.toks } := by
    cases s'
    cases s
    cases o
    rfl
  rw [e]
  exact ⟨.ref p, _, J, rfl, q p hn⟩
end
end L3
/-! A lambda handed to a def that calls it inside a try; what it raises is told at the def's own slots. -/
namespace L3
open PySem PySem.Spec PyProof.Rows L2 LamX
/-- the context of the def at g that got the lambda, entered at s from X -/
abbrev gCx (X : Cx) (N : List Str) (q : Str) (sg : Scope) (g : Addr) (cd : Value) (s : Shared) (H : Hp) : Cx := cxOf C8.CX0 X.prog X.w X.K X.mg X.base N q sg g cd X.A X.stack s H C8.E0
/-- a() in that def, a its first slot: the lambda's body is read at the slots σ where it was made; its errors go to the def's W at its own slots -/
theorem pe_lam_run {X : Cx} {pins : List (Addr × Obj)} {σ : L2.St} {H : Hp} {s : Shared} {N : List Str} {q a : Str} {sg scope : Scope} {g f c' : Addr} {cd pm ctv : Value} {params : Arguments} {body : Expr} {k : Nat} {pn : List (Addr × Obj)} {xe : Value → Shared → Prop} {W : WX} {tb : XK → TE} {p1 p2 : Pos}
    (I : L2.Inv X pins σ H s) (L : LamS X.env.scope scope) (hf : s.heap.get? f = some (PySem.W.kla_obj "<lambda>" (X.env.qual ++ "<lambda>") params body scope (cloFrom X.env.cells scope.names []) pm c' ctv)) (fNone : H f = none) (fFr : f ∉ frs X.stack)
    (hbind : bindArgs (PySem.W.kla_fn "<lambda>" (X.env.qual ++ "<lambda>") params body scope (cloFrom X.env.cells scope.names []) pm (.ref c') ctv) ⟨[], []⟩ = pure [])
    (take : Takes ((gCx X N q sg g cd s H).tr pn xe) W) (room : Room (k + 1) (X.A.deeper (envOfC q sg s.heap.objs.size g cd)))
    (hb : ∀ (A : Around) (outer : List Env) (s : Shared) (H : Hp) (E : XK), Room k (A.deeper (lamEnv X scope s.heap.objs.size f c')) → PE (lamCx X A outer s H E scope f c') body (tb E))
    (hN : N[0]? = some a) (hv : Vis sg a) (hd : (a == ("__debug__" : Str)) = false := by decide) (hcd : (a == ("__classdict__" : Str)) = false := by decide) :
    PE ((gCx X N q sg g cd s H).tr pn xe) (.Call (.Name a p1) [] [] p2) (fun τ HZ Q => τ[0]? = some (some (.ref f)) ∧ HZ c' = some (CodeO c' (X.env.qual ++ "<lambda>")) ∧ tb (WE W τ) σ HZ Q) := by
  refine ⟨fun pinsZ sZ τ HZ Q IZ h => ?_⟩
  obtain ⟨hs, hc, ht⟩ := h
  refine wpAny_Call_Name_kw (thn ((pe_var (pos := p1) (i := 0) hN hv hd hcd).run pinsZ sZ τ HZ (fun v H1 => v = .ref f ∧ H1 = HZ) IZ ⟨.ref f, hs, rfl, rfl⟩) fun u s1 ⟨v, H1, I1, r1, ev, eH⟩ => ?_)
  subst ev eH
  obtain rfl : u = Value.ref f := r1
  have atF : s1.heap.get? f = some (PySem.W.kla_obj "<lambda>" (X.env.qual ++ "<lambda>") params body scope (cloFrom X.env.cells scope.names []) pm c' ctv) := I1.base.keep f _ hf fNone fFr (fun z => nomatch (show f ∈ ([] : List Addr) from z))
  have un : Un (frs X.stack) [] H H1 s.heap s1.heap := I1.base
  obtain ⟨⟨oc, vs, t, hoc, hdc, hvc⟩, _, _⟩ := I1.hok c' _ hc
  have run : codeAny (model X.prog X.w) (X.A.deeper (envOfC q sg s.heap.objs.size g cd)) (.call (.ref f) ⟨[], []⟩) (CR (L2.CX X.prog X.w) (envOfC q sg s.heap.objs.size g cd :: X.stack) X.prog X.w H1 s1 Q (WE W τ)) s1 := by
    refine PySem.W.kla_callFunE room.depth atF rfl L.co L.gen rfl ⟨c', oc, vs, t, rfl, hoc, hdc, hvc⟩ ?_
    rw [hbind]
    refine wpAny_pure (wpAny_newFunctionEnv (fun y hy => (L.own y hy).2) (fun y hy => absurd hy (by simp)) (fun h₁ hns hsb => ⟨I1.nolimit.fresh _ hsb, ?_⟩) L.kind)
    show codeAny _ _ (.expr body (lamEnv X scope s1.heap.objs.size f c')) _ _
    have kp : ∀ b o, s1.heap.get? b = some o → h₁.get? b = some o := fun b o e => hsb.extBut b o (Nat.ne_of_lt (Heap.lt_size e)) (Heap.get?_push_of_some _ e)
    have J : L2.Inv (lamCx X (X.A.deeper (envOfC q sg s.heap.objs.size g cd)) (envOfC q sg s.heap.objs.size g cd :: X.stack) s1 H1 (WE W τ) scope f c') [] σ H1 { s1 with heap := h₁, toks := s1.toks + ([] : List (Str × Value)).length } := lam_start2 I L I1.env0 room.hd un hns kp
    refine PySem.W.kla_codeExpr (wpAny_mono ((hb _ _ s1 H1 (WE W τ) (room.deeper _)).run [] _ _ H1 Q J ht) (fun v s' ⟨w', H', J', rv, z⟩ => ?_) fun e s' z => z)
    exact ⟨w', H', J'.os, J'.bare, J'.base, J'.hok, rv, z⟩
  refine PySem.W.callWith_F0 ⟨_, _, _, _, atF⟩ (wpAny_call (codeAny_mono run fun r s' z => ?_))
  match r, z with
  | .error e, z => exact passAt take τ pinsZ H1 s1 e s' I1 z
  | .ok (.ret u), z => exact I1.after z
/-- the def calls what it got: TT: what it makes of the lambda's reading -/
def GivesS (k : Nat) (X : Cx) (N : List Str) (x : Str) (sg : Scope) (g : Addr) (cd : Value) (bg : List Stmt) (a : Str) (q : Str) (TT : (XK → Hp → VK → Prop) → Hp → VK → Prop) : Prop :=
  ∀ (f c' : Addr) (s : Shared) (H : Hp) (Q : VK) (tl : XK → Hp → VK → Prop), Room (k + 1) (X.A.deeper (envOfC x sg s.heap.objs.size g cd)) →
    (∀ (W : WX) (pn : List (Addr × Obj)) (xe : Value → Shared → Prop) (p1 p2 : Pos), Takes ((gCx X N x sg g cd s H).tr pn xe) W →
      PE ((gCx X N x sg g cd s H).tr pn xe) (.Call (.Name a p1) [] [] p2) (fun τ HZ Q => τ[0]? = some (some (.ref f)) ∧ HZ c' = some (CodeO c' q) ∧ tl (WE W τ) HZ Q)) →
    H c' = some (CodeO c' q) → TT tl H Q →
    ∃ t, PSs (gCx X N x sg g cd s H).nox bg t ∧ t { nx := fun _ H' => Q .non H', rt := Q } (L2.start N [.ref f]) H
/-- x(lambda: body) -/
theorem pe_lamS {X : Cx} {T : List (Addr × Str)} {TT : (XK → Hp → VK → Prop) → Hp → VK → Prop} {x a : Str} {g c P : Addr} {k : Nat} {st : Stmt} {fd : FuncData} {N : List Str} {params : Arguments} {body : Expr} {scope : Scope} {t : XK → TE} {p lpos pos : Pos}
    (hg : Gl X x) (hm : X.mg x = some (.ref g)) (F : Fun X.K x x st g fd) (hb : L2.Binds X.K fd [a] []) (S : FnScope N [a] (defScope st)) (hN : N[0]? = some a) (hv : Vis (defScope st) a)
    (hG : ∀ cdv, GivesS k X N x (defScope st) g cdv (defBody st) a (X.env.qual ++ "<lambda>") TT)
    (TB : TabB X.base X.mg c P) (hcode : X.env.code = .ref c) (hmT : (P, X.env.qual ++ "<lambda>") ∈ T) (hu : ∀ p ∈ T, p.1 = P → p.2 = X.env.qual ++ "<lambda>") (room : Room (k + 2) X.A) (L : LamS X.env.scope scope) (hdef : defaultsOf params X.env = ([], []))
    (hbind : ∀ (q : Str) (cl : List (Str × Addr)) (pm cv ctv : Value), bindArgs (PySem.W.kla_fn "<lambda>" q params body scope cl pm cv ctv) ⟨[], []⟩ = pure [])
    (hbody : ∀ (A : Around) (outer : List Env) (s : Shared) (H : Hp) (E : XK) (f c' : Addr), Room k (A.deeper (lamEnv X scope s.heap.objs.size f c')) → PE (lamCx X A outer s H E scope f c') body (t E))
    (hdb : (x == ("__debug__" : Str)) = false := by decide) (hd : (a == ("__debug__" : Str)) = false := by decide) (hcd : (a == ("__classdict__" : Str)) = false := by decide) :
    PE X (.Call (.Name x p) [.Lambda params body scope lpos] [] pos) (tLam T TT t) := by
  refine ⟨fun pins s σ H Q I h => ?_⟩
  obtain ⟨hT, h⟩ := h
  obtain ⟨oc, od, kV, doc, pm0, an, cdv, ct, osl, efd, lk, hcg⟩ := F.ex
  refine wpAny_Call_Name_kw (ld_glob I hg hm ?_ hdb)
  refine PySem.W.callWith_K (h₀ := X.base) I.ok.mod.kin F.kp ?_ (by rfl) (by rfl)
  show wpAny _ _ (spliced ((false, eval (.Lambda params body scope lpos) X.env) :: backTo pos (starEach [] X.env))) _ _ s
  refine Calls.spliced_cons (lam_make2 I TB hcode hmT hu hT hdef (L.has I.ok) fun f c' pm' ctv H1 s' I1 eN T1 hf hfn hfr hco => ?_)
  refine Calls.spliced_nil ⟨I1.kIn, ?_⟩
  have rc : codeAny (model X.prog X.w) X.A (.call (.ref g) ⟨[.ref f], []⟩) (CR C8.CX0 X.stack X.prog X.w H1 s' Q C8.E0) s' := by
    subst efd
    refine run_ofS (N := N) (ps := [a]) (us := [.ref f]) (vs := [.ref f]) (k := k + 1) lk hcg S room I1.env0 (hb s' [.ref f] I1.kIn rfl) (.cons rfl .nil) rfl fun room' => ?_
    obtain ⟨t', ht', hq'⟩ := hG cdv f c' s' H1 Q (fun E H' Q' => t E σ H' Q') room' (fun W pn xe p1 p2 tk => pe_lam_run (k := k) I1 L hf hfn hfr (hbind _ _ _ _ _) tk room' (fun A outer s H E hr2 => hbody A outer s H E f c' hr2) hN hv hd hcd) hco (h H1 eN T1)
    exact ⟨t', ht'.nox, hq'⟩
  refine wpAny_call (codeAny_mono rc fun r s2 hq => ?_)
  match r, hq with
  | .error e, hq => exact (show False from hq).elim
  | .ok (.ret u), hq => exact I1.after hq
end L3
/-! f(k = v, ..) where nothing is known of guards; what branches of an expression have in common. -/
namespace L3
open PySem PySem.Spec PyProof.Rows L2
section
variable {X : Cx} {CX : CXT} {k : Nat} {f : Addr} {fd : FuncData} {ps ks : List Str} {sp : Sp} {E : XK} {x : Str} {p pos : Pos} {kws : List Keyword} {tk : TA} {g : List Value → List Value → List Value} {gV : List V → List V → List V}
theorem run_fnF {pins : List (Addr × Obj)} {σ : L2.St} {H : Hp} {s : Shared} {Q : VK} {us ws : List Value} {vs : List V} {kw : List (Str × Value)} (F : FnOk X.prog X.w X.K X.mg X.base CX k f fd ps sp) (hr : Room k X.A) (hx : Passes CX X E)
    (I : Inv X pins σ H s) (hb : BindsTo s fd ⟨us, kw⟩ (ps.zip ws)) (r : Vals vs ws) (h : sp vs H Q E) : wpAny (model X.prog X.w) X.A (call (.ref f) us kw) (EP X pins σ Q) X.xe s := by
  refine wpAny_call (codeAny_mono (F.run X.A X.stack s H ⟨us, kw⟩ ws vs Q E hr I.env0 hb r h) fun r s' hq => ?_)
  cases r with
  | error e => exact hx pins σ H s e s' I hq
  | ok fl =>
    cases fl with
    | ret u => exact I.after hq
    | next => exact False.elim hq
    | brk => exact False.elim hq
    | cont => exact False.elim hq
/-- f(k = v, ..), keywords alone -/
theorem pe_callKF (F : FnOk X.prog X.w X.K X.mg X.base CX k f fd ps sp) (hr : Room k X.A) (hg : Gl X x) (hm : X.mg x = some (.ref f)) (hk : PySem.W.keepIn X.K (.ref f) = true) (hb : KBinds X.K fd ps ks g gV) (hx : Passes CX X E)
    (hkw : PK X kws tk) (hall : (backToKw pos (keywordEach kws X.env)).all (·.1.isSome) = true := by rfl) (hks : (backToKw pos (keywordEach kws X.env)).filterMap (·.1) = ks := by rfl)
    (hdb : (x == ("__debug__" : Str)) = false := by decide)
    (hpl : ((backTo pos (starEach [] X.env)).any (·.1) || (backToKw pos (keywordEach kws X.env)).any (·.1.isNone)) = false := by rfl) :
    PE X (.Call (.Name x p) [] kws pos) (tCallK sp gV E tNil tk) := by
  refine ⟨fun pins s σ H Q I h => ?_⟩
  refine wpAny_Call_Name_kw (ld_glob I hg hm ?_ hdb)
  refine PySem.W.callWith_KW0 (h₀ := X.base) I.ok.mod.kin hk hall (thn (hkw.run pos pins s σ H _ I h) fun ws s2 ⟨zs, H2, I2, rz, q2⟩ => ⟨I2.kIn, ?_⟩) hpl
  rw [hks]
  have r2 := hb.rel (vs := []) (us := []) .nil rz
  have hl : (g [] ws).length = ps.length := by rw [← r2.length]; exact F.len _ _ _ _ q2
  exact run_fnF F hr hx I2 (hb.to s2 [] ws I2.kIn hl) r2 q2
end
theorem joinE {te : TE} {σ : L2.St} {H : Hp} {Q : VK} (R : V → Hp → Prop) (h : ∀ Q' : VK, (∀ v H', R v H' → Q' v H') → te σ H Q') (k : ∀ v H', R v H' → Q v H') : te σ H Q := h Q k
end L3
/-! A nested def handed to another def that calls it there. -/
namespace L3
open PySem PySem.Spec PyProof.Rows L2 LamX NdefX
/-- the function at f is F, its code object stands -/
def FnAt2 (f : Addr) (F : NF) (H : Hp) : Prop := H f = some (FnO f F) ∧ H F.c = some (CodeO F.c F.qual)
theorem FnAt2.same {f : Addr} {F : NF} {H H' : Hp} (s : Same H H') (h : FnAt2 f F H) : FnAt2 f F H' := ⟨s _ _ h.1, s _ _ h.2⟩
/-- a(e, ..) in the def at g, entered at s from X; a holds the function F at f that X's frame made: its captured cells are X's names js at σ -/
theorem pe_fn_run {X : Cx} {pins : List (Addr × Obj)} {σ : L2.St} {H : Hp} {s : Shared} {N : List Str} {q a : Str} {sg : Scope} {g f : Addr} {cd : Value} {F : NF} {ps fr : List Str} {js : List Nat} {k i : Nat} {sp : List (Option V) → Sp} {e : Expr} {es : List Expr} {t : TA} {p1 p2 : Pos}
    (I : L2.Inv X pins σ H s) (cp : Caps X F.cl fr js) (Fn : NOk X.prog X.w X.K X.mg X.base C8.CX0 k f F ps fr sp) (room : Room k (gCx X N q sg g cd s H).A)
    (nf : ∀ y c, F.cl.lookup y = some c → c ∉ frs X.stack) (hN : N[i]? = some a) (hv : Vis sg a) (ha : PA (gCx X N q sg g cd s H).nox (e :: es) t)
    (hd : (a == ("__debug__" : Str)) = false := by decide) (hcd : (a == ("__classdict__" : Str)) = false := by decide)
    (he : starEach (e :: es) (gCx X N q sg g cd s H).nox.env = (false, eval e (gCx X N q sg g cd s H).nox.env) :: starEach es (gCx X N q sg g cd s H).nox.env := by rfl) (hpl : (backTo p2 (starEach es (gCx X N q sg g cd s H).nox.env)).any (·.1) = false := by rfl) :
    PE (gCx X N q sg g cd s H).nox (.Call (.Name a p1) (e :: es) [] p2) (fun τ HZ Q => τ[i]? = some (some (.ref f)) ∧ FnAt2 f F HZ ∧ t τ HZ fun vs H1 => FnAt2 f F H1 ∧ sp (js.map (slotAt σ)) vs H1 Q C8.E0) := by
  refine ⟨fun pinsZ sZ τ HZ Q IZ h => ?_⟩
  obtain ⟨hs, ⟨hf, _⟩, ht⟩ := h
  refine wpAny_Call_Name_kw (thn ((pe_var (pos := p1) (i := i) hN hv hd hcd).run pinsZ sZ τ HZ (fun v H1 => v = .ref f ∧ H1 = HZ) IZ ⟨.ref f, hs, rfl, rfl⟩) fun u s1 ⟨v, H1, I1, r1, ev, eH⟩ => ?_)
  subst ev eH
  obtain rfl : u = Value.ref f := r1
  refine PySem.W.callWith_F (first := []) (fnAt_of I1 hf) (thn (ha.run p2 pinsZ s1 τ H1 _ I1 ht) fun us s2 ⟨vs, H2, I2, r, ⟨h1, h2⟩, qq⟩ => ⟨fnAt_of I2 h1, ?_⟩) he hpl
  show wpAny _ _ (call (.ref f) us) _ _ _
  have C : CellsAt F.cl fr (js.map (slotAt σ)) s2.heap H2 := CellsAt.later (X := (gCx X N q sg g cd s H).nox) (cells_of I cp) nf (fun _ _ _ z => absurd z (by show _ ∉ ([] : List Addr); simp)) I2
  refine wpAny_call (codeAny_mono (Fn.run _ _ s2 H2 us vs _ Q C8.E0 room I2.env0 h1 h2 C r qq) fun r s' hq => ?_)
  match r, hq with
  | .error e, hq => exact (show False from hq).elim
  | .ok (.ret u), hq => exact I2.after hq
/-- the captured cells are no frames -/
theorem caps_nf {X : Cx} {pins : List (Addr × Obj)} {σ : L2.St} {H : Hp} {s : Shared} {cl : List (Str × Addr)} {fr : List Str} {js : List Nat} (I : L2.Inv X pins σ H s) (cp : Caps X cl fr js) (hfn : ∀ y c, cl.lookup y = some c → X.fn y = true) : ∀ y c, cl.lookup y = some c → c ∉ frs X.stack := fun y c e hc => by
  have e2 := cp.sub y c e
  rcases List.mem_cons.mp (I.stkSub c hc) with z | z
  · exact I.cne y c e2 z
  · obtain ⟨_, o, ho, _⟩ := I.ok.funs.mem z
    exact absurd (Heap.lt_size ho) (Nat.not_lt.mpr (I.ok.cab y c (hfn y c e) e2))
/-- a def that gets two functions (its parameters i1, i2, called a1, a2) and calls them: TT: what it makes of their readings -/
def GivesF (k : Nat) (X : Cx) (N : List Str) (x : Str) (sg : Scope) (g : Addr) (cd : Value) (bg : List Stmt) (i1 i2 : Nat) (a1 a2 : Str) (TT : (List V → Hp → VK → Prop) → (List V → Hp → VK → Prop) → List V → Hp → VK → Prop) : Prop :=
  ∀ (f1 f2 : Addr) (O1 O2 : Hp → Prop) (s : Shared) (H : Hp) (vs : List V) (Q : VK) (tl1 tl2 : List V → Hp → VK → Prop), Room (k + 1) (X.A.deeper (envOfC x sg s.heap.objs.size g cd)) →
    (∀ (e : Expr) (es : List Expr) (t : TA) (p1 p2 : Pos), PA (gCx X N x sg g cd s H).nox (e :: es) t → starEach (e :: es) (gCx X N x sg g cd s H).nox.env = (false, eval e (gCx X N x sg g cd s H).nox.env) :: starEach es (gCx X N x sg g cd s H).nox.env → (backTo p2 (starEach es (gCx X N x sg g cd s H).nox.env)).any (·.1) = false →
      PE (gCx X N x sg g cd s H).nox (.Call (.Name a1 p1) (e :: es) [] p2) (fun τ HZ Q => τ[i1]? = some (some (.ref f1)) ∧ O1 HZ ∧ t τ HZ fun ws H1 => O1 H1 ∧ tl1 ws H1 Q)) →
    (∀ (e : Expr) (es : List Expr) (t : TA) (p1 p2 : Pos), PA (gCx X N x sg g cd s H).nox (e :: es) t → starEach (e :: es) (gCx X N x sg g cd s H).nox.env = (false, eval e (gCx X N x sg g cd s H).nox.env) :: starEach es (gCx X N x sg g cd s H).nox.env → (backTo p2 (starEach es (gCx X N x sg g cd s H).nox.env)).any (·.1) = false →
      PE (gCx X N x sg g cd s H).nox (.Call (.Name a2 p1) (e :: es) [] p2) (fun τ HZ Q => τ[i2]? = some (some (.ref f2)) ∧ O2 HZ ∧ t τ HZ fun ws H1 => O2 H1 ∧ tl2 ws H1 Q)) →
    (∀ H H', Same H H' → O1 H → O1 H') → (∀ H H', Same H H' → O2 H → O2 H') → O1 H → O2 H → vs[i1]? = some (.ref f1) → vs[i2]? = some (.ref f2) → TT tl1 tl2 vs H Q →
    ∃ t, PSs (gCx X N x sg g cd s H).nox bg t ∧ t { nx := fun _ H' => Q .non H', rt := Q } (L2.start N vs) H
/-- x(e, ..), two of the arguments being functions F1, F2 made by the running frame -/
def tFn2 (F1 F2 : Addr → NF) (i1 i2 : Nat) (js1 js2 : List Nat) (sp1 sp2 : List (Option V) → Sp) (TT : (List V → Hp → VK → Prop) → (List V → Hp → VK → Prop) → List V → Hp → VK → Prop) (ta : TA) : TE := fun σ H Q => ta σ H fun vs H1 =>
  ∃ f1 f2 c1 c2, vs[i1]? = some (.ref f1) ∧ vs[i2]? = some (.ref f2) ∧ FnAt2 f1 (F1 c1) H1 ∧ FnAt2 f2 (F2 c2) H1 ∧ TT (fun ws HZ Q' => sp1 (js1.map (slotAt σ)) ws HZ Q' C8.E0) (fun ws HZ Q' => sp2 (js2.map (slotAt σ)) ws HZ Q' C8.E0) vs H1 Q
theorem pe_fn2 {X : Cx} {TT : (List V → Hp → VK → Prop) → (List V → Hp → VK → Prop) → List V → Hp → VK → Prop} {x a1 a2 : Str} {g : Addr} {k k1 k2 i1 i2 : Nat} {js1 js2 : List Nat} {st : Stmt} {fd : FuncData} {N qs : List Str} {ps1 ps2 fr1 fr2 : List Str} {F1 F2 : Addr → NF} {cl1 cl2 : List (Str × Addr)} {sp1 sp2 : List (Option V) → Sp} {e : Expr} {es : List Expr} {ta : TA} {p pos : Pos}
    (hg : Gl X x) (hm : X.mg x = some (.ref g)) (F : Fun X.K x x st g fd) (hb : L2.Binds X.K fd qs []) (S : FnScope N qs (defScope st)) (hN1 : N[i1]? = some a1) (hN2 : N[i2]? = some a2) (hv1 : Vis (defScope st) a1) (hv2 : Vis (defScope st) a2)
    (hG : ∀ cdv, GivesF k X N x (defScope st) g cdv (defBody st) i1 i2 a1 a2 TT) (hlen : ∀ tl1 tl2 vs H Q, TT tl1 tl2 vs H Q → vs.length = qs.length) (room : Room (k + 2) X.A)
    (n1 : ∀ f c, NOk X.prog X.w X.K X.mg X.base C8.CX0 k1 f (F1 c) ps1 fr1 sp1) (n2 : ∀ f c, NOk X.prog X.w X.K X.mg X.base C8.CX0 k2 f (F2 c) ps2 fr2 sp2) (hk1 : k1 ≤ k + 1) (hk2 : k2 ≤ k + 1) (hc1 : ∀ c, (F1 c).cl = cl1) (hc2 : ∀ c, (F2 c).cl = cl2)
    (cp1 : X.Ok → Caps X cl1 fr1 js1) (cp2 : X.Ok → Caps X cl2 fr2 js2) (hf1 : ∀ y c, cl1.lookup y = some c → X.fn y = true) (hf2 : ∀ y c, cl2.lookup y = some c → X.fn y = true)
    (ha : PA X (e :: es) ta) (hdb : (x == ("__debug__" : Str)) = false := by decide) (hd1 : (a1 == ("__debug__" : Str)) = false := by decide) (hcd1 : (a1 == ("__classdict__" : Str)) = false := by decide) (hd2 : (a2 == ("__debug__" : Str)) = false := by decide) (hcd2 : (a2 == ("__classdict__" : Str)) = false := by decide)
    (he : starEach (e :: es) X.env = (false, eval e X.env) :: starEach es X.env := by rfl) (hpl : (backTo pos (starEach es X.env)).any (·.1) = false := by rfl) :
    PE X (.Call (.Name x p) (e :: es) [] pos) (tFn2 F1 F2 i1 i2 js1 js2 sp1 sp2 TT ta) := by
  refine ⟨fun pins s σ H Q I h => ?_⟩
  obtain ⟨oc, od, kV, doc, pm0, an, cdv, ct, osl, efd, lk, hcg⟩ := F.ex
  refine wpAny_Call_Name_kw (ld_glob I hg hm ?_ hdb)
  refine PySem.W.callWith_K (h₀ := X.base) I.ok.mod.kin F.kp (thn (ha.run pos pins s σ H _ I h) fun us s1 ⟨vs, H1, I1, r, q⟩ => ⟨I1.kIn, ?_⟩) he hpl
  obtain ⟨f1, f2, c1, c2, e1, e2, o1, o2, hT⟩ := q
  have hl : vs.length = qs.length := hlen _ _ _ _ _ hT
  have rc : codeAny (model X.prog X.w) X.A (.call (.ref g) ⟨us, []⟩) (CR C8.CX0 X.stack X.prog X.w H1 s1 Q C8.E0) s1 := by
    subst efd
    have hbb := hb s1 us I1.kIn (by rw [List.append_nil, ← r.length]; exact hl)
    rw [List.append_nil] at hbb
    refine run_ofS (N := N) (ps := qs) (us := us) (vs := vs) (k := k + 1) lk hcg S room I1.env0 hbb r hl fun room' => ?_
    obtain ⟨t', ht', hq'⟩ := hG cdv f1 f2 (FnAt2 f1 (F1 c1)) (FnAt2 f2 (F2 c2)) s1 H1 vs Q _ _ room'
      (fun e es t p1 p2 ha he hpl => pe_fn_run (X := X) (F := F1 c1) (q := x) (sg := defScope st) (g := g) (cd := cdv) (p1 := p1) (p2 := p2) I1 (by rw [hc1 c1]; exact cp1 I1.ok) (n1 f1 c1) (room'.mono hk1) (by rw [hc1 c1]; exact caps_nf I1 (cp1 I1.ok) hf1) hN1 hv1 ha hd1 hcd1 he hpl)
      (fun e es t p1 p2 ha he hpl => pe_fn_run (X := X) (F := F2 c2) (q := x) (sg := defScope st) (g := g) (cd := cdv) (p1 := p1) (p2 := p2) I1 (by rw [hc2 c2]; exact cp2 I1.ok) (n2 f2 c2) (room'.mono hk2) (by rw [hc2 c2]; exact caps_nf I1 (cp2 I1.ok) hf2) hN2 hv2 ha hd2 hcd2 he hpl)
      (fun _ _ s h => h.same s) (fun _ _ s h => h.same s) o1 o2 e1 e2 hT
    exact ⟨t', ht'.nox, hq'⟩
  refine wpAny_call (codeAny_mono rc fun r s2 hq => ?_)
  match r, hq with
  | .error e, hq => exact (show False from hq).elim
  | .ok (.ret u), hq => exact I1.after hq
end L3
namespace Lw
open PySem PySem.Spec PyProof.Rows L2 L3
def topS (i : Nat) : Stmt := PySem.Challenge.pw_missedparts_k10_errors_by_families.main.body.getD i (.Pass ⟨0, 0, 0, 0⟩)
abbrev s_law_pot : Stmt := topS 30
abbrev s_law_draw : Stmt := topS 31
abbrev s_law_pick : Stmt := topS 32
abbrev s_law_grounds : Stmt := topS 33
abbrev s_law_ground : Stmt := topS 34
abbrev s_law_thing : Stmt := topS 35
abbrev s_law_by_value : Stmt := topS 36
abbrev s_law_by_named_value : Stmt := topS 37
abbrev s_law_by_position : Stmt := topS 38
abbrev s_law_by_named_position : Stmt := topS 39
abbrev s_law_of_states : Stmt := topS 40
abbrev s_law_each : Stmt := topS 41
abbrev s_law_marks : Stmt := topS 42
abbrev s_law_each_right : Stmt := topS 43
abbrev s_law_values_right : Stmt := topS 44
abbrev s_law_states_right : Stmt := topS 45
abbrev s_law_thrown : Stmt := topS 46
abbrev s_law_caught : Stmt := topS 47
abbrev s_law_right : Stmt := topS 48
abbrev s_law : Stmt := topS 49
theorem sc_law_pot : FnScope ["_law_script", "_law_k", "_law_cell"] ["_law_script", "_law_k"] (defScope s_law_pot) := ⟨rfl, rfl, rfl, by decide +kernel, rfl, by decide +kernel, by decide +kernel⟩
theorem sc_law_draw : FnScope ["_law_pot_here", "_law_sides", "_law_digit"] ["_law_pot_here", "_law_sides"] (defScope s_law_draw) := ⟨rfl, rfl, rfl, by decide +kernel, rfl, by decide +kernel, by decide +kernel⟩
theorem sc_law_pick : FnScope ["_law_pot_here", "_law_some"] ["_law_pot_here", "_law_some"] (defScope s_law_pick) := ⟨rfl, rfl, rfl, by decide +kernel, rfl, by decide +kernel, by decide +kernel⟩
theorem sc_law_grounds : FnScope ["_law_e", "_law_found"] ["_law_e"] (defScope s_law_grounds) := ⟨rfl, rfl, rfl, by decide +kernel, rfl, by decide +kernel, by decide +kernel⟩
theorem sc_law_ground : FnScope ["_law_way", "_law_spot"] ["_law_way"] (defScope s_law_ground) := ⟨rfl, rfl, rfl, by decide +kernel, rfl, by decide +kernel, by decide +kernel⟩
theorem sc_law_thing : FnScope ["_law_pot_here", "_law_turn"] ["_law_pot_here", "_law_turn"] (defScope s_law_thing) := ⟨rfl, rfl, rfl, by decide +kernel, rfl, by decide +kernel, by decide +kernel⟩
theorem sc_law_by_value : FnScope ["_law_odd", "_law_found"] ["_law_odd"] (defScope s_law_by_value) := ⟨rfl, rfl, rfl, by decide +kernel, rfl, by decide +kernel, by decide +kernel⟩
theorem sc_law_by_named_value : FnScope ["_law_odd", "_law_found"] ["_law_odd"] (defScope s_law_by_named_value) := ⟨rfl, rfl, rfl, by decide +kernel, rfl, by decide +kernel, by decide +kernel⟩
theorem sc_law_by_position : FnScope ["_law_odd", "_law_found"] ["_law_odd"] (defScope s_law_by_position) := ⟨rfl, rfl, rfl, by decide +kernel, rfl, by decide +kernel, by decide +kernel⟩
theorem sc_law_by_named_position : FnScope ["_law_odd", "_law_found"] ["_law_odd"] (defScope s_law_by_named_position) := ⟨rfl, rfl, rfl, by decide +kernel, rfl, by decide +kernel, by decide +kernel⟩
theorem sc_law_of_states : FnScope ["_law_odd"] ["_law_odd"] (defScope s_law_of_states) := ⟨rfl, rfl, rfl, by decide +kernel, rfl, by decide +kernel, by decide +kernel⟩
theorem sc_law_each : FnScope ["_law_odd", "_law_found"] ["_law_odd"] (defScope s_law_each) := ⟨rfl, rfl, rfl, by decide +kernel, rfl, by decide +kernel, by decide +kernel⟩
theorem sc_law_marks : FnScope ["_law_e", "_law_found"] ["_law_e"] (defScope s_law_marks) := ⟨rfl, rfl, rfl, by decide +kernel, rfl, by decide +kernel, by decide +kernel⟩
theorem sc_law_each_right : FnScope ["_law_odd", "_law_some", "_law_at", "_law_e", "_law_k"] ["_law_odd"] (defScope s_law_each_right) := ⟨rfl, rfl, rfl, by decide +kernel, rfl, by decide +kernel, by decide +kernel⟩
theorem sc_law_values_right : FnScope ["_law_mine", "_law_yours", "_law_some", "_law_e", "_law_rows_now"] ["_law_mine", "_law_yours"] (defScope s_law_values_right) := ⟨rfl, rfl, rfl, by decide +kernel, rfl, by decide +kernel, by decide +kernel⟩
theorem sc_law_states_right : FnScope ["_law_mine", "_law_yours", "_law_some", "_law_e", "_law_far", "_law_deaf", "_law_failed", "_law_none_now", "_law_much"] ["_law_mine", "_law_yours"] (defScope s_law_states_right) := ⟨rfl, rfl, rfl, by decide +kernel, rfl, by decide +kernel, by decide +kernel⟩
theorem sc_law_thrown : FnScope ["_law_way", "_law_odd"] ["_law_way", "_law_odd"] (defScope s_law_thrown) := ⟨rfl, rfl, rfl, by decide +kernel, rfl, by decide +kernel, by decide +kernel⟩
theorem sc_law_caught : FnScope ["_law_way", "_law_odd", "_law_told", "_law_e"] ["_law_way", "_law_odd"] (defScope s_law_caught) := ⟨rfl, rfl, rfl, by decide +kernel, rfl, by decide +kernel, by decide +kernel⟩
theorem sc_law_right : FnScope ["_law_pot_here", "_law_turn", "_law_mine", "_law_yours", "_law_way"] ["_law_pot_here"] (defScope s_law_right) := ⟨rfl, rfl, rfl, by decide +kernel, rfl, by decide +kernel, by decide +kernel⟩
theorem sc_law : FnScope ["_law_script", "_law_k"] ["_law_script"] (defScope s_law) := ⟨rfl, rfl, rfl, by decide +kernel, rfl, by decide +kernel, by decide +kernel⟩
/-- what the top has left of a def -/
structure Dn (K : PySem.W.Frag) (mg : Str → Option Value) (x : Str) (st : Stmt) (ps : List Str) (f : Addr) (fd : FuncData) : Prop where
  F : Fun K x x st f fd
  b : L2.Binds K fd ps []
  g : mg x = some (.ref f)
abbrev s_InvalidText_init : Stmt := inClass (topS 2) 0
theorem es_InvalidText : ErrS ["self", "value"] (defArgs s_InvalidText_init) (defScope s_InvalidText_init) := ⟨rfl, rfl, by decide +kernel, ⟨_, rfl, rfl⟩, rfl, by decide, rfl, by decide +kernel, rfl, rfl⟩
theorem kw_InvalidText : Kw1 (defArgs s_InvalidText_init) (defBody s_InvalidText_init) (defScope s_InvalidText_init) "value" := fun _ _ _ _ _ _ _ _ _ _ _ => .of_eq rfl
theorem eb_InvalidText : Bd1 (defScope s_InvalidText_init) (defBody s_InvalidText_init) "value" "value" := ⟨_, _, _, _, _, _, _, _, _, _, _, _, rfl, fun _ _ _ _ _ => ⟨_, rfl⟩, ⟨rfl, by decide, fun _ _ _ _ _ => rfl⟩⟩
abbrev s_InvalidLetters_init : Stmt := inClass (topS 3) 0
theorem es_InvalidLetters : ErrS ["self", "value"] (defArgs s_InvalidLetters_init) (defScope s_InvalidLetters_init) := ⟨rfl, rfl, by decide +kernel, ⟨_, rfl, rfl⟩, rfl, by decide, rfl, by decide +kernel, rfl, rfl⟩
theorem kw_InvalidLetters : Kw1 (defArgs s_InvalidLetters_init) (defBody s_InvalidLetters_init) (defScope s_InvalidLetters_init) "value" := fun _ _ _ _ _ _ _ _ _ _ _ => .of_eq rfl
theorem eb_InvalidLetters : Bd1 (defScope s_InvalidLetters_init) (defBody s_InvalidLetters_init) "value" "value" := ⟨_, _, _, _, _, _, _, _, _, _, _, _, rfl, fun _ _ _ _ _ => ⟨_, rfl⟩, ⟨rfl, by decide, fun _ _ _ _ _ => rfl⟩⟩
abbrev s_InvalidLetter_init : Stmt := inClass (topS 4) 0
theorem es_InvalidLetter : ErrS ["self", "value"] (defArgs s_InvalidLetter_init) (defScope s_InvalidLetter_init) := ⟨rfl, rfl, by decide +kernel, ⟨_, rfl, rfl⟩, rfl, by decide, rfl, by decide +kernel, rfl, rfl⟩
theorem kw_InvalidLetter : Kw1 (defArgs s_InvalidLetter_init) (defBody s_InvalidLetter_init) (defScope s_InvalidLetter_init) "value" := fun _ _ _ _ _ _ _ _ _ _ _ => .of_eq rfl
theorem eb_InvalidLetter : Bd1 (defScope s_InvalidLetter_init) (defBody s_InvalidLetter_init) "value" "value" := ⟨_, _, _, _, _, _, _, _, _, _, _, _, rfl, fun _ _ _ _ _ => ⟨_, rfl⟩, ⟨rfl, by decide, fun _ _ _ _ _ => rfl⟩⟩
abbrev s_InvalidNumber_init : Stmt := inClass (topS 5) 0
theorem es_InvalidNumber : ErrS ["self", "value"] (defArgs s_InvalidNumber_init) (defScope s_InvalidNumber_init) := ⟨rfl, rfl, by decide +kernel, ⟨_, rfl, rfl⟩, rfl, by decide, rfl, by decide +kernel, rfl, rfl⟩
theorem kw_InvalidNumber : Kw1 (defArgs s_InvalidNumber_init) (defBody s_InvalidNumber_init) (defScope s_InvalidNumber_init) "value" := fun _ _ _ _ _ _ _ _ _ _ _ => .of_eq rfl
theorem eb_InvalidNumber : Bd1 (defScope s_InvalidNumber_init) (defBody s_InvalidNumber_init) "value" "value" := ⟨_, _, _, _, _, _, _, _, _, _, _, _, rfl, fun _ _ _ _ _ => ⟨_, rfl⟩, ⟨rfl, by decide, fun _ _ _ _ _ => rfl⟩⟩
abbrev s_InvalidPlace_init : Stmt := inClass (topS 6) 0
theorem es_InvalidPlace : ErrS ["self", "value"] (defArgs s_InvalidPlace_init) (defScope s_InvalidPlace_init) := ⟨rfl, rfl, by decide +kernel, ⟨_, rfl, rfl⟩, rfl, by decide, rfl, by decide +kernel, rfl, rfl⟩
theorem kw_InvalidPlace : Kw1 (defArgs s_InvalidPlace_init) (defBody s_InvalidPlace_init) (defScope s_InvalidPlace_init) "value" := fun _ _ _ _ _ _ _ _ _ _ _ => .of_eq rfl
theorem eb_InvalidPlace : Bd1 (defScope s_InvalidPlace_init) (defBody s_InvalidPlace_init) "value" "value" := ⟨_, _, _, _, _, _, _, _, _, _, _, _, rfl, fun _ _ _ _ _ => ⟨_, rfl⟩, ⟨rfl, by decide, fun _ _ _ _ _ => rfl⟩⟩
abbrev s_InvalidMachine_init : Stmt := inClass (topS 7) 0
theorem es_InvalidMachine : ErrS ["self", "value"] (defArgs s_InvalidMachine_init) (defScope s_InvalidMachine_init) := ⟨rfl, rfl, by decide +kernel, ⟨_, rfl, rfl⟩, rfl, by decide, rfl, by decide +kernel, rfl, rfl⟩
theorem kw_InvalidMachine : Kw1 (defArgs s_InvalidMachine_init) (defBody s_InvalidMachine_init) (defScope s_InvalidMachine_init) "value" := fun _ _ _ _ _ _ _ _ _ _ _ => .of_eq rfl
theorem eb_InvalidMachine : Bd1 (defScope s_InvalidMachine_init) (defBody s_InvalidMachine_init) "value" "value" := ⟨_, _, _, _, _, _, _, _, _, _, _, _, rfl, fun _ _ _ _ _ => ⟨_, rfl⟩, ⟨rfl, by decide, fun _ _ _ _ _ => rfl⟩⟩
abbrev s_InvalidProduct_init : Stmt := inClass (topS 8) 0
theorem es_InvalidProduct : ErrS ["self", "value"] (defArgs s_InvalidProduct_init) (defScope s_InvalidProduct_init) := ⟨rfl, rfl, by decide +kernel, ⟨_, rfl, rfl⟩, rfl, by decide, rfl, by decide +kernel, rfl, rfl⟩
theorem kw_InvalidProduct : Kw1 (defArgs s_InvalidProduct_init) (defBody s_InvalidProduct_init) (defScope s_InvalidProduct_init) "value" := fun _ _ _ _ _ _ _ _ _ _ _ => .of_eq rfl
theorem eb_InvalidProduct : Bd1 (defScope s_InvalidProduct_init) (defBody s_InvalidProduct_init) "value" "value" := ⟨_, _, _, _, _, _, _, _, _, _, _, _, rfl, fun _ _ _ _ _ => ⟨_, rfl⟩, ⟨rfl, by decide, fun _ _ _ _ _ => rfl⟩⟩
abbrev s_InvalidSum_init : Stmt := inClass (topS 9) 0
theorem es_InvalidSum : ErrS ["self", "value"] (defArgs s_InvalidSum_init) (defScope s_InvalidSum_init) := ⟨rfl, rfl, by decide +kernel, ⟨_, rfl, rfl⟩, rfl, by decide, rfl, by decide +kernel, rfl, rfl⟩
theorem kw_InvalidSum : Kw1 (defArgs s_InvalidSum_init) (defBody s_InvalidSum_init) (defScope s_InvalidSum_init) "value" := fun _ _ _ _ _ _ _ _ _ _ _ => .of_eq rfl
theorem eb_InvalidSum : Bd1 (defScope s_InvalidSum_init) (defBody s_InvalidSum_init) "value" "value" := ⟨_, _, _, _, _, _, _, _, _, _, _, _, rfl, fun _ _ _ _ _ => ⟨_, rfl⟩, ⟨rfl, by decide, fun _ _ _ _ _ => rfl⟩⟩
abbrev s_InvalidTest_init : Stmt := inClass (topS 10) 0
theorem es_InvalidTest : ErrS ["self", "value"] (defArgs s_InvalidTest_init) (defScope s_InvalidTest_init) := ⟨rfl, rfl, by decide +kernel, ⟨_, rfl, rfl⟩, rfl, by decide, rfl, by decide +kernel, rfl, rfl⟩
theorem kw_InvalidTest : Kw1 (defArgs s_InvalidTest_init) (defBody s_InvalidTest_init) (defScope s_InvalidTest_init) "value" := fun _ _ _ _ _ _ _ _ _ _ _ => .of_eq rfl
theorem eb_InvalidTest : Bd1 (defScope s_InvalidTest_init) (defBody s_InvalidTest_init) "value" "value" := ⟨_, _, _, _, _, _, _, _, _, _, _, _, rfl, fun _ _ _ _ _ => ⟨_, rfl⟩, ⟨rfl, by decide, fun _ _ _ _ _ => rfl⟩⟩
abbrev s_InvalidLine_init : Stmt := inClass (topS 11) 0
theorem es_InvalidLine : ErrS ["self", "value"] (defArgs s_InvalidLine_init) (defScope s_InvalidLine_init) := ⟨rfl, rfl, by decide +kernel, ⟨_, rfl, rfl⟩, rfl, by decide, rfl, by decide +kernel, rfl, rfl⟩
theorem kw_InvalidLine : Kw1 (defArgs s_InvalidLine_init) (defBody s_InvalidLine_init) (defScope s_InvalidLine_init) "value" := fun _ _ _ _ _ _ _ _ _ _ _ => .of_eq rfl
theorem eb_InvalidLine : Bd1 (defScope s_InvalidLine_init) (defBody s_InvalidLine_init) "value" "value" := ⟨_, _, _, _, _, _, _, _, _, _, _, _, rfl, fun _ _ _ _ _ => ⟨_, rfl⟩, ⟨rfl, by decide, fun _ _ _ _ _ => rfl⟩⟩
abbrev s_InvalidClaim_init : Stmt := inClass (topS 12) 0
theorem es_InvalidClaim : ErrS ["self", "value"] (defArgs s_InvalidClaim_init) (defScope s_InvalidClaim_init) := ⟨rfl, rfl, by decide +kernel, ⟨_, rfl, rfl⟩, rfl, by decide, rfl, by decide +kernel, rfl, rfl⟩
theorem kw_InvalidClaim : Kw1 (defArgs s_InvalidClaim_init) (defBody s_InvalidClaim_init) (defScope s_InvalidClaim_init) "value" := fun _ _ _ _ _ _ _ _ _ _ _ => .of_eq rfl
theorem eb_InvalidClaim : Bd1 (defScope s_InvalidClaim_init) (defBody s_InvalidClaim_init) "value" "value" := ⟨_, _, _, _, _, _, _, _, _, _, _, _, rfl, fun _ _ _ _ _ => ⟨_, rfl⟩, ⟨rfl, by decide, fun _ _ _ _ _ => rfl⟩⟩
abbrev s_InvalidCommand_init : Stmt := inClass (topS 13) 0
theorem es_InvalidCommand : ErrS ["self", "value"] (defArgs s_InvalidCommand_init) (defScope s_InvalidCommand_init) := ⟨rfl, rfl, by decide +kernel, ⟨_, rfl, rfl⟩, rfl, by decide, rfl, by decide +kernel, rfl, rfl⟩
theorem kw_InvalidCommand : Kw1 (defArgs s_InvalidCommand_init) (defBody s_InvalidCommand_init) (defScope s_InvalidCommand_init) "value" := fun _ _ _ _ _ _ _ _ _ _ _ => .of_eq rfl
theorem eb_InvalidCommand : Bd1 (defScope s_InvalidCommand_init) (defBody s_InvalidCommand_init) "value" "value" := ⟨_, _, _, _, _, _, _, _, _, _, _, _, rfl, fun _ _ _ _ _ => ⟨_, rfl⟩, ⟨rfl, by decide, fun _ _ _ _ _ => rfl⟩⟩
abbrev s_InvalidRows_init : Stmt := inClass (topS 14) 0
theorem es_InvalidRows : ErrS ["self", "position"] (defArgs s_InvalidRows_init) (defScope s_InvalidRows_init) := ⟨rfl, rfl, by decide +kernel, ⟨_, rfl, rfl⟩, rfl, by decide, rfl, by decide +kernel, rfl, rfl⟩
theorem kw_InvalidRows : Kw1 (defArgs s_InvalidRows_init) (defBody s_InvalidRows_init) (defScope s_InvalidRows_init) "position" := fun _ _ _ _ _ _ _ _ _ _ _ => .of_eq rfl
theorem eb_InvalidRows : Bd1 (defScope s_InvalidRows_init) (defBody s_InvalidRows_init) "position" "position" := ⟨_, _, _, _, _, _, _, _, _, _, _, _, rfl, fun _ _ _ _ _ => ⟨_, rfl⟩, ⟨rfl, by decide, fun _ _ _ _ _ => rfl⟩⟩
abbrev s_InvalidKinds_init : Stmt := inClass (topS 15) 0
theorem es_InvalidKinds : ErrS ["self", "position"] (defArgs s_InvalidKinds_init) (defScope s_InvalidKinds_init) := ⟨rfl, rfl, by decide +kernel, ⟨_, rfl, rfl⟩, rfl, by decide, rfl, by decide +kernel, rfl, rfl⟩
theorem kw_InvalidKinds : Kw1 (defArgs s_InvalidKinds_init) (defBody s_InvalidKinds_init) (defScope s_InvalidKinds_init) "position" := fun _ _ _ _ _ _ _ _ _ _ _ => .of_eq rfl
theorem eb_InvalidKinds : Bd1 (defScope s_InvalidKinds_init) (defBody s_InvalidKinds_init) "position" "position" := ⟨_, _, _, _, _, _, _, _, _, _, _, _, rfl, fun _ _ _ _ _ => ⟨_, rfl⟩, ⟨rfl, by decide, fun _ _ _ _ _ => rfl⟩⟩
abbrev s_InvalidProducts_init : Stmt := inClass (topS 16) 0
theorem es_InvalidProducts : ErrS ["self", "position"] (defArgs s_InvalidProducts_init) (defScope s_InvalidProducts_init) := ⟨rfl, rfl, by decide +kernel, ⟨_, rfl, rfl⟩, rfl, by decide, rfl, by decide +kernel, rfl, rfl⟩
theorem kw_InvalidProducts : Kw1 (defArgs s_InvalidProducts_init) (defBody s_InvalidProducts_init) (defScope s_InvalidProducts_init) "position" := fun _ _ _ _ _ _ _ _ _ _ _ => .of_eq rfl
theorem eb_InvalidProducts : Bd1 (defScope s_InvalidProducts_init) (defBody s_InvalidProducts_init) "position" "position" := ⟨_, _, _, _, _, _, _, _, _, _, _, _, rfl, fun _ _ _ _ _ => ⟨_, rfl⟩, ⟨rfl, by decide, fun _ _ _ _ _ => rfl⟩⟩
abbrev s_InvalidTexts_init : Stmt := inClass (topS 17) 0
theorem es_InvalidTexts : ErrS ["self", "position"] (defArgs s_InvalidTexts_init) (defScope s_InvalidTexts_init) := ⟨rfl, rfl, by decide +kernel, ⟨_, rfl, rfl⟩, rfl, by decide, rfl, by decide +kernel, rfl, rfl⟩
theorem kw_InvalidTexts : Kw1 (defArgs s_InvalidTexts_init) (defBody s_InvalidTexts_init) (defScope s_InvalidTexts_init) "position" := fun _ _ _ _ _ _ _ _ _ _ _ => .of_eq rfl
theorem eb_InvalidTexts : Bd1 (defScope s_InvalidTexts_init) (defBody s_InvalidTexts_init) "position" "position" := ⟨_, _, _, _, _, _, _, _, _, _, _, _, rfl, fun _ _ _ _ _ => ⟨_, rfl⟩, ⟨rfl, by decide, fun _ _ _ _ _ => rfl⟩⟩
abbrev s_InvalidPlaces_init : Stmt := inClass (topS 18) 0
theorem es_InvalidPlaces : ErrS ["self", "position"] (defArgs s_InvalidPlaces_init) (defScope s_InvalidPlaces_init) := ⟨rfl, rfl, by decide +kernel, ⟨_, rfl, rfl⟩, rfl, by decide, rfl, by decide +kernel, rfl, rfl⟩
theorem kw_InvalidPlaces : Kw1 (defArgs s_InvalidPlaces_init) (defBody s_InvalidPlaces_init) (defScope s_InvalidPlaces_init) "position" := fun _ _ _ _ _ _ _ _ _ _ _ => .of_eq rfl
theorem eb_InvalidPlaces : Bd1 (defScope s_InvalidPlaces_init) (defBody s_InvalidPlaces_init) "position" "position" := ⟨_, _, _, _, _, _, _, _, _, _, _, _, rfl, fun _ _ _ _ _ => ⟨_, rfl⟩, ⟨rfl, by decide, fun _ _ _ _ _ => rfl⟩⟩
abbrev s_InvalidLevels_init : Stmt := inClass (topS 19) 0
theorem es_InvalidLevels : ErrS ["self", "position"] (defArgs s_InvalidLevels_init) (defScope s_InvalidLevels_init) := ⟨rfl, rfl, by decide +kernel, ⟨_, rfl, rfl⟩, rfl, by decide, rfl, by decide +kernel, rfl, rfl⟩
theorem kw_InvalidLevels : Kw1 (defArgs s_InvalidLevels_init) (defBody s_InvalidLevels_init) (defScope s_InvalidLevels_init) "position" := fun _ _ _ _ _ _ _ _ _ _ _ => .of_eq rfl
theorem eb_InvalidLevels : Bd1 (defScope s_InvalidLevels_init) (defBody s_InvalidLevels_init) "position" "position" := ⟨_, _, _, _, _, _, _, _, _, _, _, _, rfl, fun _ _ _ _ _ => ⟨_, rfl⟩, ⟨rfl, by decide, fun _ _ _ _ _ => rfl⟩⟩
abbrev s_InvalidRow_init : Stmt := inClass (topS 20) 0
theorem es_InvalidRow : ErrS ["self", "row"] (defArgs s_InvalidRow_init) (defScope s_InvalidRow_init) := ⟨rfl, rfl, by decide +kernel, ⟨_, rfl, rfl⟩, rfl, by decide, rfl, by decide +kernel, rfl, rfl⟩
theorem kw_InvalidRow : Kw1 (defArgs s_InvalidRow_init) (defBody s_InvalidRow_init) (defScope s_InvalidRow_init) "row" := fun _ _ _ _ _ _ _ _ _ _ _ => .of_eq rfl
theorem eb_InvalidRow : Bd1 (defScope s_InvalidRow_init) (defBody s_InvalidRow_init) "row" "row" := ⟨_, _, _, _, _, _, _, _, _, _, _, _, rfl, fun _ _ _ _ _ => ⟨_, rfl⟩, ⟨rfl, by decide, fun _ _ _ _ _ => rfl⟩⟩
abbrev s_OtherLetters_init : Stmt := inClass (topS 22) 0
theorem es_OtherLetters : ErrS ["self", "one", "other"] (defArgs s_OtherLetters_init) (defScope s_OtherLetters_init) := ⟨rfl, rfl, by decide +kernel, ⟨_, rfl, rfl⟩, rfl, by decide, rfl, by decide +kernel, rfl, rfl⟩
theorem kw_OtherLetters : Kw2 (defArgs s_OtherLetters_init) (defBody s_OtherLetters_init) (defScope s_OtherLetters_init) "one" "other" := fun _ _ _ _ _ _ _ _ _ _ _ _ => .of_eq rfl
theorem eb_OtherLetters : Bd2 (defScope s_OtherLetters_init) (defBody s_OtherLetters_init) "one" "one" "other" "other" := ⟨_, _, _, _, _, _, _, _, _, _, _, _, _, _, _, _, rfl, fun _ _ _ _ _ => ⟨_, rfl⟩, ⟨rfl, by decide, fun _ _ _ _ _ => rfl⟩, ⟨rfl, by decide, fun _ _ _ _ _ => rfl⟩⟩
abbrev s_NotComeTo_init : Stmt := inClass (topS 23) 0
theorem es_NotComeTo : ErrS ["self", "place"] (defArgs s_NotComeTo_init) (defScope s_NotComeTo_init) := ⟨rfl, rfl, by decide +kernel, ⟨_, rfl, rfl⟩, rfl, by decide, rfl, by decide +kernel, rfl, rfl⟩
theorem kw_NotComeTo : Kw1 (defArgs s_NotComeTo_init) (defBody s_NotComeTo_init) (defScope s_NotComeTo_init) "place" := fun _ _ _ _ _ _ _ _ _ _ _ => .of_eq rfl
theorem eb_NotComeTo : Bd1 (defScope s_NotComeTo_init) (defBody s_NotComeTo_init) "place" "place" := ⟨_, _, _, _, _, _, _, _, _, _, _, _, rfl, fun _ _ _ _ _ => ⟨_, rfl⟩, ⟨rfl, by decide, fun _ _ _ _ _ => rfl⟩⟩
abbrev s_NeverHeard_init : Stmt := inClass (topS 24) 0
theorem es_NeverHeard : ErrS ["self", "value"] (defArgs s_NeverHeard_init) (defScope s_NeverHeard_init) := ⟨rfl, rfl, by decide +kernel, ⟨_, rfl, rfl⟩, rfl, by decide, rfl, by decide +kernel, rfl, rfl⟩
theorem kw_NeverHeard : Kw1 (defArgs s_NeverHeard_init) (defBody s_NeverHeard_init) (defScope s_NeverHeard_init) "value" := fun _ _ _ _ _ _ _ _ _ _ _ => .of_eq rfl
theorem eb_NeverHeard : Bd1 (defScope s_NeverHeard_init) (defBody s_NeverHeard_init) "value" "value" := ⟨_, _, _, _, _, _, _, _, _, _, _, _, rfl, fun _ _ _ _ _ => ⟨_, rfl⟩, ⟨rfl, by decide, fun _ _ _ _ _ => rfl⟩⟩
abbrev s_NothingToUndo_init : Stmt := inClass (topS 25) 0
theorem es_NothingToUndo : ErrS ["self"] (defArgs s_NothingToUndo_init) (defScope s_NothingToUndo_init) := ⟨rfl, rfl, by decide +kernel, ⟨_, rfl, rfl⟩, rfl, by decide, rfl, by decide +kernel, rfl, rfl⟩
theorem eb_NothingToUndo : Bd0 (defBody s_NothingToUndo_init) (defScope s_NothingToUndo_init) := ⟨_, _, _, _, _, _, _, _, rfl, fun _ _ _ _ _ => ⟨_, rfl⟩⟩
abbrev s_CommandFailed_init : Stmt := inClass (topS 26) 0
theorem es_CommandFailed : ErrS ["self", "position"] (defArgs s_CommandFailed_init) (defScope s_CommandFailed_init) := ⟨rfl, rfl, by decide +kernel, ⟨_, rfl, rfl⟩, rfl, by decide, rfl, by decide +kernel, rfl, rfl⟩
theorem kw_CommandFailed : Kw1 (defArgs s_CommandFailed_init) (defBody s_CommandFailed_init) (defScope s_CommandFailed_init) "position" := fun _ _ _ _ _ _ _ _ _ _ _ => .of_eq rfl
theorem eb_CommandFailed : Bd1 (defScope s_CommandFailed_init) (defBody s_CommandFailed_init) "position" "position" := ⟨_, _, _, _, _, _, _, _, _, _, _, _, rfl, fun _ _ _ _ _ => ⟨_, rfl⟩, ⟨rfl, by decide, fun _ _ _ _ _ => rfl⟩⟩
abbrev s_TooMany_init : Stmt := inClass (topS 28) 0
theorem es_TooMany : ErrS ["self", "what", "limit"] (defArgs s_TooMany_init) (defScope s_TooMany_init) := ⟨rfl, rfl, by decide +kernel, ⟨_, rfl, rfl⟩, rfl, by decide, rfl, by decide +kernel, rfl, rfl⟩
theorem kw_TooMany : Kw2 (defArgs s_TooMany_init) (defBody s_TooMany_init) (defScope s_TooMany_init) "what" "limit" := fun _ _ _ _ _ _ _ _ _ _ _ _ => .of_eq rfl
theorem eb_TooMany : Bd2 (defScope s_TooMany_init) (defBody s_TooMany_init) "what" "what" "limit" "limit" := ⟨_, _, _, _, _, _, _, _, _, _, _, _, _, _, _, _, rfl, fun _ _ _ _ _ => ⟨_, rfl⟩, ⟨rfl, by decide, fun _ _ _ _ _ => rfl⟩, ⟨rfl, by decide, fun _ _ _ _ _ => rfl⟩⟩
abbrev PW : Program := PySem.Challenge.pw_missedparts_k10_errors_by_families
structure All (K : PySem.W.Frag) (mg : Str → Option Value) where
  C_InvalidText : Addr
  g_InvalidText : mg "InvalidText" = some (.ref C_InvalidText)
  er_InvalidText : Ek1 PW K mg C_InvalidText "value" "value"
  xf_InvalidText : XfC K C_InvalidText
  xc_InvalidText : ExcC K C_InvalidText
  nf_InvalidText_value : PySem.W.findIn K (.ref C_InvalidText) "value" = some none
  C_InvalidLetters : Addr
  g_InvalidLetters : mg "InvalidLetters" = some (.ref C_InvalidLetters)
  er_InvalidLetters : Ek1 PW K mg C_InvalidLetters "value" "value"
  xf_InvalidLetters : XfC K C_InvalidLetters
  xc_InvalidLetters : ExcC K C_InvalidLetters
  nf_InvalidLetters_value : PySem.W.findIn K (.ref C_InvalidLetters) "value" = some none
  C_InvalidLetter : Addr
  g_InvalidLetter : mg "InvalidLetter" = some (.ref C_InvalidLetter)
  er_InvalidLetter : Ek1 PW K mg C_InvalidLetter "value" "value"
  xf_InvalidLetter : XfC K C_InvalidLetter
  xc_InvalidLetter : ExcC K C_InvalidLetter
  nf_InvalidLetter_value : PySem.W.findIn K (.ref C_InvalidLetter) "value" = some none
  C_InvalidNumber : Addr
  g_InvalidNumber : mg "InvalidNumber" = some (.ref C_InvalidNumber)
  er_InvalidNumber : Ek1 PW K mg C_InvalidNumber "value" "value"
  xf_InvalidNumber : XfC K C_InvalidNumber
  xc_InvalidNumber : ExcC K C_InvalidNumber
  nf_InvalidNumber_value : PySem.W.findIn K (.ref C_InvalidNumber) "value" = some none
  C_InvalidPlace : Addr
  g_InvalidPlace : mg "InvalidPlace" = some (.ref C_InvalidPlace)
  er_InvalidPlace : Ek1 PW K mg C_InvalidPlace "value" "value"
  xf_InvalidPlace : XfC K C_InvalidPlace
  xc_InvalidPlace : ExcC K C_InvalidPlace
  nf_InvalidPlace_value : PySem.W.findIn K (.ref C_InvalidPlace) "value" = some none
  C_InvalidMachine : Addr
  g_InvalidMachine : mg "InvalidMachine" = some (.ref C_InvalidMachine)
  er_InvalidMachine : Ek1 PW K mg C_InvalidMachine "value" "value"
  xf_InvalidMachine : XfC K C_InvalidMachine
  xc_InvalidMachine : ExcC K C_InvalidMachine
  nf_InvalidMachine_value : PySem.W.findIn K (.ref C_InvalidMachine) "value" = some none
  C_InvalidProduct : Addr
  g_InvalidProduct : mg "InvalidProduct" = some (.ref C_InvalidProduct)
  er_InvalidProduct : Ek1 PW K mg C_InvalidProduct "value" "value"
  xf_InvalidProduct : XfC K C_InvalidProduct
  xc_InvalidProduct : ExcC K C_InvalidProduct
  nf_InvalidProduct_value : PySem.W.findIn K (.ref C_InvalidProduct) "value" = some none
  C_InvalidSum : Addr
  g_InvalidSum : mg "InvalidSum" = some (.ref C_InvalidSum)
  er_InvalidSum : Ek1 PW K mg C_InvalidSum "value" "value"
  xf_InvalidSum : XfC K C_InvalidSum
  xc_InvalidSum : ExcC K C_InvalidSum
  nf_InvalidSum_value : PySem.W.findIn K (.ref C_InvalidSum) "value" = some none
  C_InvalidTest : Addr
  g_InvalidTest : mg "InvalidTest" = some (.ref C_InvalidTest)
  er_InvalidTest : Ek1 PW K mg C_InvalidTest "value" "value"
  xf_InvalidTest : XfC K C_InvalidTest
  xc_InvalidTest : ExcC K C_InvalidTest
  nf_InvalidTest_value : PySem.W.findIn K (.ref C_InvalidTest) "value" = some none
  C_InvalidLine : Addr
  g_InvalidLine : mg "InvalidLine" = some (.ref C_InvalidLine)
  er_InvalidLine : Ek1 PW K mg C_InvalidLine "value" "value"
  xf_InvalidLine : XfC K C_InvalidLine
  xc_InvalidLine : ExcC K C_InvalidLine
  nf_InvalidLine_value : PySem.W.findIn K (.ref C_InvalidLine) "value" = some none
  C_InvalidClaim : Addr
  g_InvalidClaim : mg "InvalidClaim" = some (.ref C_InvalidClaim)
  er_InvalidClaim : Ek1 PW K mg C_InvalidClaim "value" "value"
  xf_InvalidClaim : XfC K C_InvalidClaim
  xc_InvalidClaim : ExcC K C_InvalidClaim
  nf_InvalidClaim_value : PySem.W.findIn K (.ref C_InvalidClaim) "value" = some none
  C_InvalidCommand : Addr
  g_InvalidCommand : mg "InvalidCommand" = some (.ref C_InvalidCommand)
  er_InvalidCommand : Ek1 PW K mg C_InvalidCommand "value" "value"
  xf_InvalidCommand : XfC K C_InvalidCommand
  xc_InvalidCommand : ExcC K C_InvalidCommand
  nf_InvalidCommand_value : PySem.W.findIn K (.ref C_InvalidCommand) "value" = some none
  C_InvalidRows : Addr
  g_InvalidRows : mg "InvalidRows" = some (.ref C_InvalidRows)
  er_InvalidRows : Ek1 PW K mg C_InvalidRows "position" "position"
  xf_InvalidRows : XfC K C_InvalidRows
  xc_InvalidRows : ExcC K C_InvalidRows
  nf_InvalidRows_position : PySem.W.findIn K (.ref C_InvalidRows) "position" = some none
  C_InvalidKinds : Addr
  g_InvalidKinds : mg "InvalidKinds" = some (.ref C_InvalidKinds)
  er_InvalidKinds : Ek1 PW K mg C_InvalidKinds "position" "position"
  xf_InvalidKinds : XfC K C_InvalidKinds
  xc_InvalidKinds : ExcC K C_InvalidKinds
  nf_InvalidKinds_position : PySem.W.findIn K (.ref C_InvalidKinds) "position" = some none
  C_InvalidProducts : Addr
  g_InvalidProducts : mg "InvalidProducts" = some (.ref C_InvalidProducts)
  er_InvalidProducts : Ek1 PW K mg C_InvalidProducts "position" "position"
  xf_InvalidProducts : XfC K C_InvalidProducts
  xc_InvalidProducts : ExcC K C_InvalidProducts
  nf_InvalidProducts_position : PySem.W.findIn K (.ref C_InvalidProducts) "position" = some none
  C_InvalidTexts : Addr
  g_InvalidTexts : mg "InvalidTexts" = some (.ref C_InvalidTexts)
  er_InvalidTexts : Ek1 PW K mg C_InvalidTexts "position" "position"
  xf_InvalidTexts : XfC K C_InvalidTexts
  xc_InvalidTexts : ExcC K C_InvalidTexts
  nf_InvalidTexts_position : PySem.W.findIn K (.ref C_InvalidTexts) "position" = some none
  C_InvalidPlaces : Addr
  g_InvalidPlaces : mg "InvalidPlaces" = some (.ref C_InvalidPlaces)
  er_InvalidPlaces : Ek1 PW K mg C_InvalidPlaces "position" "position"
  xf_InvalidPlaces : XfC K C_InvalidPlaces
  xc_InvalidPlaces : ExcC K C_InvalidPlaces
  nf_InvalidPlaces_position : PySem.W.findIn K (.ref C_InvalidPlaces) "position" = some none
  C_InvalidLevels : Addr
  g_InvalidLevels : mg "InvalidLevels" = some (.ref C_InvalidLevels)
  er_InvalidLevels : Ek1 PW K mg C_InvalidLevels "position" "position"
  xf_InvalidLevels : XfC K C_InvalidLevels
  xc_InvalidLevels : ExcC K C_InvalidLevels
  nf_InvalidLevels_position : PySem.W.findIn K (.ref C_InvalidLevels) "position" = some none
  C_InvalidRow : Addr
  g_InvalidRow : mg "InvalidRow" = some (.ref C_InvalidRow)
  er_InvalidRow : Ek1 PW K mg C_InvalidRow "row" "row"
  xf_InvalidRow : XfC K C_InvalidRow
  xc_InvalidRow : ExcC K C_InvalidRow
  nf_InvalidRow_row : PySem.W.findIn K (.ref C_InvalidRow) "row" = some none
  C_OtherLetters : Addr
  g_OtherLetters : mg "OtherLetters" = some (.ref C_OtherLetters)
  er_OtherLetters : Ek2 PW K mg C_OtherLetters "one" "one" "other" "other"
  xf_OtherLetters : XfC K C_OtherLetters
  xc_OtherLetters : ExcC K C_OtherLetters
  nf_OtherLetters_one : PySem.W.findIn K (.ref C_OtherLetters) "one" = some none
  nf_OtherLetters_other : PySem.W.findIn K (.ref C_OtherLetters) "other" = some none
  C_NotComeTo : Addr
  g_NotComeTo : mg "NotComeTo" = some (.ref C_NotComeTo)
  er_NotComeTo : Ek1 PW K mg C_NotComeTo "place" "place"
  xf_NotComeTo : XfC K C_NotComeTo
  xc_NotComeTo : ExcC K C_NotComeTo
  nf_NotComeTo_place : PySem.W.findIn K (.ref C_NotComeTo) "place" = some none
  C_NeverHeard : Addr
  g_NeverHeard : mg "NeverHeard" = some (.ref C_NeverHeard)
  er_NeverHeard : Ek1 PW K mg C_NeverHeard "value" "value"
  xf_NeverHeard : XfC K C_NeverHeard
  xc_NeverHeard : ExcC K C_NeverHeard
  nf_NeverHeard_value : PySem.W.findIn K (.ref C_NeverHeard) "value" = some none
  C_NothingToUndo : Addr
  g_NothingToUndo : mg "NothingToUndo" = some (.ref C_NothingToUndo)
  er_NothingToUndo : Ek0 PW K mg C_NothingToUndo 
  xf_NothingToUndo : XfC K C_NothingToUndo
  xc_NothingToUndo : ExcC K C_NothingToUndo
  C_CommandFailed : Addr
  g_CommandFailed : mg "CommandFailed" = some (.ref C_CommandFailed)
  er_CommandFailed : Ek1 PW K mg C_CommandFailed "position" "position"
  xf_CommandFailed : XfC K C_CommandFailed
  xc_CommandFailed : ExcC K C_CommandFailed
  nf_CommandFailed_position : PySem.W.findIn K (.ref C_CommandFailed) "position" = some none
  C_TooMany : Addr
  g_TooMany : mg "TooMany" = some (.ref C_TooMany)
  er_TooMany : Ek2 PW K mg C_TooMany "what" "what" "limit" "limit"
  xf_TooMany : XfC K C_TooMany
  xc_TooMany : ExcC K C_TooMany
  nf_TooMany_what : PySem.W.findIn K (.ref C_TooMany) "what" = some none
  nf_TooMany_limit : PySem.W.findIn K (.ref C_TooMany) "limit" = some none
  f_law_pot : Addr
  d_law_pot : FuncData
  law_pot : Dn K mg "_law_pot" s_law_pot ["_law_script", "_law_k"] f_law_pot d_law_pot
  f_law_draw : Addr
  d_law_draw : FuncData
  law_draw : Dn K mg "_law_draw" s_law_draw ["_law_pot_here", "_law_sides"] f_law_draw d_law_draw
  f_law_pick : Addr
  d_law_pick : FuncData
  law_pick : Dn K mg "_law_pick" s_law_pick ["_law_pot_here", "_law_some"] f_law_pick d_law_pick
  f_law_grounds : Addr
  d_law_grounds : FuncData
  law_grounds : Dn K mg "_law_grounds" s_law_grounds ["_law_e"] f_law_grounds d_law_grounds
  f_law_ground : Addr
  d_law_ground : FuncData
  law_ground : Dn K mg "_law_ground" s_law_ground ["_law_way"] f_law_ground d_law_ground
  f_law_thing : Addr
  d_law_thing : FuncData
  law_thing : Dn K mg "_law_thing" s_law_thing ["_law_pot_here", "_law_turn"] f_law_thing d_law_thing
  f_law_by_value : Addr
  d_law_by_value : FuncData
  law_by_value : Dn K mg "_law_by_value" s_law_by_value ["_law_odd"] f_law_by_value d_law_by_value
  f_law_by_named_value : Addr
  d_law_by_named_value : FuncData
  law_by_named_value : Dn K mg "_law_by_named_value" s_law_by_named_value ["_law_odd"] f_law_by_named_value d_law_by_named_value
  f_law_by_position : Addr
  d_law_by_position : FuncData
  law_by_position : Dn K mg "_law_by_position" s_law_by_position ["_law_odd"] f_law_by_position d_law_by_position
  f_law_by_named_position : Addr
  d_law_by_named_position : FuncData
  law_by_named_position : Dn K mg "_law_by_named_position" s_law_by_named_position ["_law_odd"] f_law_by_named_position d_law_by_named_position
  f_law_of_states : Addr
  d_law_of_states : FuncData
  law_of_states : Dn K mg "_law_of_states" s_law_of_states ["_law_odd"] f_law_of_states d_law_of_states
  f_law_each : Addr
  d_law_each : FuncData
  law_each : Dn K mg "_law_each" s_law_each ["_law_odd"] f_law_each d_law_each
  f_law_marks : Addr
  d_law_marks : FuncData
  law_marks : Dn K mg "_law_marks" s_law_marks ["_law_e"] f_law_marks d_law_marks
  f_law_each_right : Addr
  d_law_each_right : FuncData
  law_each_right : Dn K mg "_law_each_right" s_law_each_right ["_law_odd"] f_law_each_right d_law_each_right
  f_law_values_right : Addr
  d_law_values_right : FuncData
  law_values_right : Dn K mg "_law_values_right" s_law_values_right ["_law_mine", "_law_yours"] f_law_values_right d_law_values_right
  f_law_states_right : Addr
  d_law_states_right : FuncData
  law_states_right : Dn K mg "_law_states_right" s_law_states_right ["_law_mine", "_law_yours"] f_law_states_right d_law_states_right
  f_law_thrown : Addr
  d_law_thrown : FuncData
  law_thrown : Dn K mg "_law_thrown" s_law_thrown ["_law_way", "_law_odd"] f_law_thrown d_law_thrown
  f_law_caught : Addr
  d_law_caught : FuncData
  law_caught : Dn K mg "_law_caught" s_law_caught ["_law_way", "_law_odd"] f_law_caught d_law_caught
  f_law_right : Addr
  d_law_right : FuncData
  law_right : Dn K mg "_law_right" s_law_right ["_law_pot_here"] f_law_right d_law_right
  f_law : Addr
  d_law : FuncData
  law : Dn K mg "law" s_law ["_law_script"] f_law d_law
  C_PartsError : Addr
  g_PartsError : mg "PartsError" = some (.ref C_PartsError)
  C_StateError : Addr
  g_StateError : mg "StateError" = some (.ref C_StateError)
  C_LimitError : Addr
  g_LimitError : mg "LimitError" = some (.ref C_LimitError)
  kt : ([C_InvalidText, C_InvalidLetters, C_InvalidLetter, C_InvalidNumber, C_InvalidPlace, C_InvalidMachine, C_InvalidProduct, C_InvalidSum, C_InvalidTest, C_InvalidLine, C_InvalidClaim, C_InvalidCommand, C_InvalidRows, C_InvalidKinds, C_InvalidProducts, C_InvalidTexts, C_InvalidPlaces, C_InvalidLevels, C_InvalidRow, C_OtherLetters, C_NotComeTo, C_NeverHeard, C_NothingToUndo, C_CommandFailed, C_TooMany].zipIdx.all fun p => [C_InvalidText, C_InvalidLetters, C_InvalidLetter, C_InvalidNumber, C_InvalidPlace, C_InvalidMachine, C_InvalidProduct, C_InvalidSum, C_InvalidTest, C_InvalidLine, C_InvalidClaim, C_InvalidCommand, C_InvalidRows, C_InvalidKinds, C_InvalidProducts, C_InvalidTexts, C_InvalidPlaces, C_InvalidLevels, C_InvalidRow, C_OtherLetters, C_NotComeTo, C_NeverHeard, C_NothingToUndo, C_CommandFailed, C_TooMany].zipIdx.all fun q => decide (PySem.W.kitOne K (.ref p.1) (.ref q.1) = some (decide (p.2 = q.2)))) = true
  kg : ([C_InvalidText, C_InvalidLetters, C_InvalidLetter, C_InvalidNumber, C_InvalidPlace, C_InvalidMachine, C_InvalidProduct, C_InvalidSum, C_InvalidTest, C_InvalidLine, C_InvalidClaim, C_InvalidCommand, C_InvalidRows, C_InvalidKinds, C_InvalidProducts, C_InvalidTexts, C_InvalidPlaces, C_InvalidLevels, C_InvalidRow, C_OtherLetters, C_NotComeTo, C_NeverHeard, C_NothingToUndo, C_CommandFailed, C_TooMany].zipIdx.all fun p => ([(.ref C_PartsError, 0), (.ref C_StateError, 1), (.ref C_LimitError, 2), (.type "ValueError", 0), (.type "RuntimeError", 1), (.type "ArithmeticError", 2)] : List (Value × Nat)).all fun q => decide (PySem.W.kitOne K (.ref p.1) q.1 = some (decide ((if p.2 < 19 then 0 else if p.2 < 24 then 1 else 2) = q.2)))) = true
  et : (([(C_InvalidRows, [(C_InvalidRow, false), (C_InvalidRows, true), (C_InvalidLetter, false), (C_InvalidLetters, false), (C_InvalidText, false), (C_PartsError, true), (C_NothingToUndo, false), (C_StateError, false), (C_LimitError, false)]), (C_InvalidRow, [(C_InvalidRow, true), (C_InvalidRows, false), (C_InvalidLetter, false), (C_InvalidLetters, false), (C_InvalidText, false), (C_PartsError, true), (C_NothingToUndo, false), (C_StateError, false), (C_LimitError, false)]), (C_InvalidLetters, [(C_InvalidRow, false), (C_InvalidRows, false), (C_InvalidLetter, false), (C_InvalidLetters, true), (C_InvalidText, false), (C_PartsError, true), (C_NothingToUndo, false), (C_StateError, false), (C_LimitError, false)]), (C_InvalidLetter, [(C_InvalidRow, false), (C_InvalidRows, false), (C_InvalidLetter, true), (C_InvalidLetters, false), (C_InvalidText, false), (C_PartsError, true), (C_NothingToUndo, false), (C_StateError, false), (C_LimitError, false)]), (C_InvalidTexts, [(C_InvalidRow, false), (C_InvalidRows, false), (C_InvalidLetter, false), (C_InvalidLetters, false), (C_InvalidText, false), (C_PartsError, true), (C_NothingToUndo, false), (C_StateError, false), (C_LimitError, false)]), (C_NothingToUndo, [(C_InvalidRow, false), (C_InvalidRows, false), (C_InvalidLetter, false), (C_InvalidLetters, false), (C_InvalidText, false), (C_PartsError, false), (C_NothingToUndo, true), (C_StateError, true), (C_LimitError, false)]), (C_NeverHeard, [(C_InvalidRow, false), (C_InvalidRows, false), (C_InvalidLetter, false), (C_InvalidLetters, false), (C_InvalidText, false), (C_PartsError, false), (C_NothingToUndo, false), (C_StateError, true), (C_LimitError, false)]), (C_TooMany, [(C_InvalidRow, false), (C_InvalidRows, false), (C_InvalidLetter, false), (C_InvalidLetters, false), (C_InvalidText, false), (C_PartsError, false), (C_NothingToUndo, false), (C_StateError, false), (C_LimitError, true)])] : List (Addr × List (Addr × Bool))).all fun p => p.2.all fun q => decide (PySem.W.exmOne K (.ref p.1) (.ref q.1) = some q.2)) = true
  b_ArithmeticError : mg "ArithmeticError" = none
  b_RuntimeError : mg "RuntimeError" = none
  b_ValueError : mg "ValueError" = none
  b_abs : mg "abs" = none
  b_all : mg "all" = none
  b_any : mg "any" = none
  b_divmod : mg "divmod" = none
  b_enumerate : mg "enumerate" = none
  b_int : mg "int" = none
  b_isinstance : mg "isinstance" = none
  b_len : mg "len" = none
  b_max : mg "max" = none
  b_min : mg "min" = none
  b_range : mg "range" = none
  b_repr : mg "repr" = none
  b_super : mg "super" = none
end Lw
namespace Lw
open PySem PySem.Spec PyProof.Rows L3
open L2 hiding del del_same del_ne
section
variable {P : Program} {w : World} {K : PySem.W.Frag} {mg : Str → Option Value} {base : Heap}
/-- a pot: two numbers -/
def Pot (H : Hp) (a : Addr) : Prop := ∃ x y : Int, H a = some (.lst [.int x, .int y]) ∧ 0 ≤ x ∧ 0 ≤ y ∧ y < 4294967296
/-- all but a stays -/
def Off (a : Addr) (H H' : Hp) : Prop := ∀ b o, H b = some o → b ≠ a → H' b = some o
theorem Off.refl (a : Addr) (H : Hp) : Off a H H := fun _ _ e _ => e
theorem Off.trans {a : Addr} {H H1 H2 : Hp} (x : Off a H H1) (y : Off a H1 H2) : Off a H H2 := fun b o e n => y b o (x b o e n) n
theorem Off.of {a : Addr} {H H' : Hp} (s : Same H H') : Off a H H' := fun b o e _ => s b o e
theorem Off.up {a p : Addr} {H H' : Hp} {o : HO} (x : Off a H H') (h : H p = none) : Off a H (upd H' p o) := fun b u e n => by
  rw [upd_ne (ne_of_none e h)]
  exact x b u e n
theorem Off.at {a : Addr} {H H' : Hp} {o : HO} (x : Off a H H') : Off a H (upd H' a o) := fun b u e n => by
  rw [upd_ne n]
  exact x b u e n
theorem Pot.some {H : Hp} {a : Addr} (h : Pot H a) : H a ≠ none := fun e => by
  obtain ⟨x, y, h, _⟩ := h
  rw [e] at h
  cases h
theorem Off.free {a : Addr} {H H' : Hp} (x : Off a H H') {l : Addr} (h : H' l = none) (hp : Pot H' a) : H l = none := by
  cases q : H l with
  | none => rfl
  | some o =>
    by_cases e : l = a
    · subst e
      exact absurd h hp.some
    · rw [x l o q e] at h
      cases h
theorem Off.seq {K : PySem.W.Frag} {a l : Addr} {H H' : Hp} {xs : List V} (x : Off a H H') (n : l ≠ a) (h : SqL K H l xs) : SqL K H' l xs := by
  rcases h with (h | ⟨o, h⟩) | h
  · exact .inl (.inl (x _ _ h n))
  · exact .inl (.inr ⟨o, x _ _ h n⟩)
  · exact .inr h
/-! ### _law_pot -/
def spPot (K : PySem.W.Frag) : Sp := fun vs H Q _ => ∃ (a : Addr) (ns : List Int) (k : Nat), vs = [.ref a, .int (k : Int)] ∧ SqL K H a (ns.map V.int) ∧ k ≤ 10 ∧ ∀ H' p, Same H H' → H p = none → Pot H' p → Q (.ref p) H'
theorem pot_fin {H : Hp} {p : Addr} {z : Int} (x : Int) : Pot (upd H p (.lst [.int (if x > 0 then x else 0), .int (z % 2147483579 + 1)])) p := by
  refine ⟨_, _, upd_same, ?_, ?_, ?_⟩
  · split <;> omega
  · omega
  · omega
theorem ok_law_pot (T : All K mg) : FnOk P w K mg base CX0 1 T.f_law_pot T.d_law_pot ["_law_script", "_law_k"] (spPot K) := by
  refine T.law_pot.F.ok sc_law_pot (fun vs H Q E h => ?_) (fun cdv A outer s H vs Q E hr h => ?_)
  · obtain ⟨a, ns, k, rfl, _⟩ := h
    rfl
  · obtain ⟨a, ns, k, rfl, hS, hk, q⟩ := h
    refine ⟨_, pss_cons (ps_set (i := 2) sc_law_pot.nd rfl (.inl rfl) (pe_op op_add (pe_op op_mul pe_int (pv 1)) pe_int))
      (pss_cons (ps_if (pt_cmpR op_lt (pv 1) (pe_callB call_len_seq (by rfl) T.b_len PySem.boot_len (pa_cons (pv 0) pa_nil)) (nomark _))
        (pss_one (ps_set (i := 2) sc_law_pot.nd rfl (.inl rfl) (pe_callB call_abs (by rfl) T.b_abs PyProof.Rows.boot_abs (pa_cons (pe_ix ix_list (pv 0) (pv 1) (fun _ _ => rfl)) pa_nil)))) pss_nil)
      (pss_one (ps_ret (pe_lst (pa_cons (pe_callB (call_max2 rfl) (by rfl) T.b_max PyProof.Rows.boot_max (pa_cons pe_int (pa_cons (pe_op op_sub (pv 2) (pe_op op_pow pe_int pe_int)) pa_nil)))
        (pa_cons (pe_op op_add (pe_op op_mod (pe_callTy call_int1 (by rfl) T.b_int PyProof.Rows.boot_int (pa_cons (pe_op op_add (pe_op op_add (pe_op op_mul (pe_op op_mod (pe_callTy call_int1 (by rfl) T.b_int PyProof.Rows.boot_int (pa_cons (pv 2) pa_nil)) pe_int) pe_int) (pe_op op_mul pe_int (pv 1))) pe_int) pa_nil)) pe_int) pe_int) pa_nil)))))), ?_⟩
    refine ⟨_, rfl, _, _, rfl, rfl, .inl ⟨by decide, by decide⟩, _, _, rfl, rfl, ?_⟩
    refine ⟨_, rfl, _, rfl, a, ns.map V.int, rfl, .inl hS, _, _, rfl, rfl, _, rfl, ite2 (fun e => ?_) (fun e => ?_)⟩
    · have hlt : k < ns.length := by
        have := of_decide_eq_true e
        rw [List.length_map] at this
        omega
      refine ⟨_, rfl, _, rfl, a, _, _, .int ns[k], rfl, rfl, hS, atI_nat (by rw [List.getElem?_map, List.getElem?_eq_getElem hlt]; rfl), _, rfl, ?_⟩
      refine ⟨_, rfl, 10, 18, rfl, rfl, ⟨by decide, by decide, by decide⟩, _, _, rfl, rfl, _, _, rfl, ?_⟩
      refine ⟨_, rfl, .inl ⟨_, rfl, _, _, rfl, rfl, (by show (0 : Int) < 2147483549; decide), _, _, rfl, rfl, .inr ⟨by decide, by decide⟩, _, rfl, _, _, rfl, rfl, .inl ⟨by decide, by decide⟩, _, _, rfl, rfl, _, _, rfl, rfl,
        .inl ⟨_, rfl, _, _, rfl, rfl, (by show (0 : Int) < 2147483579; decide), _, _, rfl, rfl, (by show 2 ≤ sizeLine; decide), fun p np => ?_⟩⟩⟩
      exact q _ p (same_upd np) np (pot_fin _)
    · refine ⟨_, rfl, 10, 18, rfl, rfl, ⟨by decide, by decide, by decide⟩, _, _, rfl, rfl, _, _, rfl, ?_⟩
      refine ⟨_, rfl, .inl ⟨_, rfl, _, _, rfl, rfl, (by show (0 : Int) < 2147483549; decide), _, _, rfl, rfl, .inr ⟨by decide, by decide⟩, _, rfl, _, _, rfl, rfl, .inl ⟨by decide, by decide⟩, _, _, rfl, rfl, _, _, rfl, rfl,
        .inl ⟨_, rfl, _, _, rfl, rfl, (by show (0 : Int) < 2147483579; decide), _, _, rfl, rfl, (by show 2 ≤ sizeLine; decide), fun p np => ?_⟩⟩⟩
      exact q _ p (same_upd np) np (pot_fin _)
/-! ### _law_draw -/
def spDraw : Sp := fun vs H Q _ => ∃ (a : Addr) (n : Nat), vs = [.ref a, .int (n : Int)] ∧ Pot H a ∧ 0 < n ∧ n ≤ 1000000 ∧ ∀ (H' : Hp) (d : Nat), d < n → Pot H' a → Off a H H' → Q (.int (d : Int)) H'
theorem ix2_0 {x y : V} : ixN [x, y].length (0 : Int) = some 0 := rfl
theorem ix2_1 {x y : V} : ixN [x, y].length (1 : Int) = some 1 := rfl
theorem ok_law_draw (T : All K mg) : FnOk P w K mg base CX0 1 T.f_law_draw T.d_law_draw ["_law_pot_here", "_law_sides"] spDraw := by
  refine T.law_draw.F.ok sc_law_draw (fun vs H Q E h => ?_) (fun cdv A outer s H vs Q E hr h => ?_)
  · obtain ⟨a, n, rfl, _⟩ := h
    rfl
  · obtain ⟨a, n, rfl, hp, hn, hn2, q⟩ := h
    obtain ⟨x, y, ha, hx, hy, hy2⟩ := hp
    refine ⟨_, pss_cons (ps_if (pt_cmpR op_gt (pe_ix ix_list (pv 0) pe_int (fun _ _ => rfl)) pe_int (nomark _))
        (pss_cons (ps_asg (pe_callB call_divmod (by rfl) T.b_divmod PyProof.Rows.boot_divmod (pa_cons (pe_ix ix_list (pv 0) pe_int (fun _ _ => rfl)) (pa_cons (pv 1) pa_nil))) (pg_tup (by rfl) (pgs_cons (pg_sub (pv 0) pe_int set_list) (pgs_cons (pg_name (i := 2) sc_law_draw.nd rfl (.inl rfl)) pgs_nil))))
        (pss_one (ps_ret (pv 2)))) pss_nil)
      (pss_cons (ps_asg (pe_op op_mod (pe_callTy call_int1 (by rfl) T.b_int PyProof.Rows.boot_int (pa_cons (pe_op op_add (pe_op op_mul (pe_ix ix_list (pv 0) pe_int (fun _ _ => rfl)) pe_int) pe_int) pa_nil)) pe_int) (pg_sub (pv 0) pe_int set_list))
      (pss_one (ps_ret (pe_op op_mod (pe_callTy call_int1 (by rfl) T.b_int PyProof.Rows.boot_int (pa_cons (pe_op op_fdiv (pe_op op_mod (pe_callTy call_int1 (by rfl) T.b_int PyProof.Rows.boot_int (pa_cons (pe_op op_mul (pe_ix ix_list (pv 0) pe_int (fun _ _ => rfl)) (pe_ix ix_list (pv 0) pe_int (fun _ _ => rfl))) pa_nil)) pe_int) pe_int) pa_nil)) (pv 1))))), ?_⟩
    refine ⟨_, rfl, a, _, _, .int x, rfl, rfl, .inl (.inl ha), rfl, _, _, rfl, rfl, _, rfl, ite2 (fun e => ?_) (fun e => ?_)⟩
    · -- the pot's own digits
      have hx0 : 0 < x := of_decide_eq_true e
      refine ⟨_, rfl, a, _, _, .int x, rfl, rfl, .inl (.inl ha), rfl, _, rfl, x, n, rfl, ⟨by omega, by omega⟩, fun t nt => ?_⟩
      have nat' : a ≠ t := ne_of_none ha nt
      have ha2 : upd H t (.tup [.int (x / n), .int (x % n)]) a = some (.lst [.int x, .int y]) := by rw [upd_ne nat']; exact ha
      refine ⟨t, _, rfl, .inl (.inl upd_same), rfl, _, _, rfl, _, rfl, a, _, _, 0, rfl, rfl, ha2, ix2_0, _, _, rfl, rfl, ?_⟩
      have h0 := Int.emod_nonneg x (show (n : Int) ≠ 0 by omega)
      have h1 := Int.emod_lt_of_pos x (show (0 : Int) < (n : Int) by omega)
      obtain ⟨d, hd⟩ := Int.eq_ofNat_of_zero_le h0
      refine ⟨_, rfl, ?_⟩
      rw [hd]
      refine q _ d (by omega) ⟨x / n, y, upd_same, Int.ediv_nonneg hx (by omega), hy, hy2⟩ (Off.at (Off.up (Off.refl a H) nt))
    · -- the mixed number
      refine ⟨_, rfl, a, _, _, .int y, rfl, rfl, .inl (.inl ha), rfl, y, _, rfl, rfl, .inl ⟨by omega, by omega⟩, _, _, rfl, rfl, .inl ⟨_, rfl, _, _, rfl, rfl, (by show (0 : Int) < 2147483563; decide), ?_⟩⟩
      refine ⟨_, rfl, a, _, _, 1, rfl, rfl, ha, ix2_1, ?_⟩
      have hz := Int.emod_nonneg (y * 40009 + 1031) (show (2147483563 : Int) ≠ 0 by decide)
      have hz2 := Int.emod_lt_of_pos (y * 40009 + 1031) (show (0 : Int) < 2147483563 by decide)
      obtain ⟨z, hz0⟩ : ∃ z, (y * 40009 + 1031) % 2147483563 = z := ⟨_, rfl⟩
      have hA : upd H a (.lst ([V.int x, V.int y].set 1 ((fun i j => V.int (i % j)) (y * 40009 + 1031) 2147483563))) a = some (.lst [.int x, .int z]) := by
        rw [upd_same]
        show some (HO.lst [V.int x, V.int ((y * 40009 + 1031) % 2147483563)]) = _
        rw [hz0]
      rw [hz0] at hz hz2
      refine ⟨_, rfl, a, _, _, .int z, rfl, rfl, .inl (.inl hA), rfl, _, rfl, a, _, _, .int z, rfl, rfl, .inl (.inl hA), rfl, z, z, rfl, rfl, .inl ⟨by omega, by omega⟩,
        .inl ⟨_, rfl, _, _, rfl, rfl, (by show (0 : Int) < 2147483543; decide), _, _, rfl, rfl, ⟨by decide, by decide⟩, .inl ⟨_, rfl, _, rfl, _, _, rfl, rfl, (by show (0 : Int) < (n : Int); omega), ?_⟩⟩⟩
      have h0 := Int.emod_nonneg (z * z % 2147483543 / 17) (show (n : Int) ≠ 0 by omega)
      have h1 := Int.emod_lt_of_pos (z * z % 2147483543 / 17) (show (0 : Int) < (n : Int) by omega)
      obtain ⟨d, hd⟩ := Int.eq_ofNat_of_zero_le h0
      show Q (.int (z * z % 2147483543 / 17 % (n : Int))) _
      rw [hd]
      exact q _ d (by omega) ⟨x, z, hA, hx, hz, by omega⟩ (Off.at (Off.refl a H))
/-! ### _law_pick -/
def spPick (K : PySem.W.Frag) : Sp := fun vs H Q _ => ∃ (a : Addr) (x : V), vs = [.ref a, x] ∧ Pot H a ∧
  ((∃ l : List Nat, x = tx l ∧ l ≠ [] ∧ l.length ≤ 1000 ∧ ∀ (H' : Hp) (c : Nat), c ∈ l → Pot H' a → Off a H H' → Q (tx [c]) H') ∨
   ∃ (b : Addr) (xs : List V), x = .ref b ∧ b ≠ a ∧ SqL K H b xs ∧ xs ≠ [] ∧ xs.length ≤ 1000 ∧ ∀ (H' : Hp) (v : V), v ∈ xs → Pot H' a → Off a H H' → Q v H')
theorem ok_law_pick (T : All K mg) : FnOk P w K mg base CX0 2 T.f_law_pick T.d_law_pick ["_law_pot_here", "_law_some"] (spPick K) := by
  refine T.law_pick.F.ok sc_law_pick (fun vs H Q E h => ?_) (fun cdv A outer s H vs Q E hr h => ?_)
  · obtain ⟨a, x, rfl, _⟩ := h
    rfl
  · obtain ⟨a, x, rfl, hp, h⟩ := h
    refine ⟨_, pss_one (ps_ret (pe_ix ix_seq (pv 1) (pe_call (ok_law_draw T) hr (by rfl) T.law_draw.g T.law_draw.F.kp T.law_draw.b .nil pass0 (pa_cons (pv 0) (pa_cons (pe_callB call_len (by rfl) T.b_len PySem.boot_len (pa_cons (pv 1) pa_nil)) pa_nil))) (fun _ _ => rfl))), ?_⟩
    rcases h with ⟨l, rfl, hl, hl2, q⟩ | ⟨b, xs, rfl, hba, hS, hl, hl2, q⟩
    · have hpos : 0 < l.length := List.length_pos_iff.mpr hl
      refine ⟨_, rfl, _, rfl, _, rfl, _, l.length, rfl, ⟨by rw [tS_len, sizeLine_eq]; omega, (tS_len l).symm⟩, a, l.length, rfl, hp, hpos, by omega, fun H' d hd hp' ho => ?_⟩
      refine .inr (.inr ⟨_, _, l[d], rfl, rfl, by rw [tS_len, sizeLine_eq]; omega, atI_nat (by simp [hd]), ?_⟩)
      exact q H' l[d] (List.getElem_mem hd) hp' ho
    · have hpos : 0 < xs.length := List.length_pos_iff.mpr hl
      refine ⟨_, rfl, _, rfl, _, rfl, _, xs.length, rfl, .inl ⟨xs, hS, rfl⟩, a, xs.length, rfl, hp, hpos, by omega, fun H' d hd hp' ho => ?_⟩
      refine .inl ⟨b, xs, _, xs[d], rfl, rfl, ho.seq hba hS, atI_nat (List.getElem?_eq_getElem hd), ?_⟩
      exact q H' xs[d] (List.getElem_mem hd) hp' ho
theorem Pot.up {H : Hp} {a p : Addr} {o : HO} (h : Pot H a) (n : a ≠ p) : Pot (upd H p o) a := by
  obtain ⟨x, y, e, r⟩ := h
  exact ⟨x, y, by rw [upd_ne n]; exact e, r⟩
theorem Pot.ne {H : Hp} {a p : Addr} (h : Pot H a) (e : H p = none) : a ≠ p := fun z => h.some (by rw [z]; exact e)
theorem Pot.same {H H' : Hp} {a : Addr} (h : Pot H a) (s : Same H H') : Pot H' a := by
  obtain ⟨x, y, e, r⟩ := h
  exact ⟨x, y, s _ _ e, r⟩
/-! ### heaps without the pot -/
theorem off_del {a : Addr} {H H' : Hp} (x : Off a H H') : Same (del H a) (del H' a) := fun b o e => by
  unfold del at e ⊢
  by_cases h : b = a
  · rw [if_pos h] at e; cases e
  · rw [if_neg h] at e ⊢; exact x b o e h
theorem off_of {a : Addr} {H H' : Hp} (s : Same (del H a) (del H' a)) : Off a H H' := fun b o e n => by
  have := s b o (by rw [del_ne n]; exact e)
  rw [del_ne n] at this
  exact this
theorem del_comm (H : Hp) (a b : Addr) : del (del H a) b = del (del H b) a := by
  funext c; unfold del
  by_cases h1 : c = b
  · by_cases h2 : c = a
    · rw [if_pos h1, if_pos h2]
    · rw [if_pos h1, if_neg h2, if_pos h1]
  · by_cases h2 : c = a
    · rw [if_neg h1, if_pos h2, if_pos h2]
    · rw [if_neg h1, if_neg h2, if_neg h2, if_neg h1]
theorem del_new {H : Hp} {a p : Addr} {o : HO} (n : p ≠ a) : del (upd H p o) a = upd (del H a) p o := by
  funext c
  by_cases h1 : c = a
  · rw [h1, del_at, upd_ne n.symm, del_at]
  · rw [del_ne h1]
    by_cases h2 : c = p
    · rw [h2, upd_same, upd_same]
    · rw [upd_ne h2, upd_ne h2, del_ne h1]
end
end Lw
namespace Lw
open PySem PySem.Spec PyProof.Rows L3
open L2 hiding del del_same del_ne
theorem sz {n : Nat} (h : n ≤ 100000) : n ≤ sizeLine := by rw [sizeLine_eq]; omega
theorem ite_f {b : Bool} {p q : Prop} (e : b = false) (h : q) : if b = true then p else q := by rw [e]; exact h
theorem ite_t {b : Bool} {p q : Prop} (e : b = true) (h : p) : if b = true then p else q := by rw [e]; exact h
theorem u64 {k : Nat} {A : Around} (hr : Room k A) : A.units + 64 < cLine := by have := hr.units; omega
/-! ### errors by their number -/
section
variable {K : PySem.W.Frag} {mg : Str → Option Value}
def eCs (T : All K mg) : List Addr := [T.C_InvalidText, T.C_InvalidLetters, T.C_InvalidLetter, T.C_InvalidNumber, T.C_InvalidPlace, T.C_InvalidMachine, T.C_InvalidProduct, T.C_InvalidSum, T.C_InvalidTest, T.C_InvalidLine, T.C_InvalidClaim, T.C_InvalidCommand, T.C_InvalidRows, T.C_InvalidKinds, T.C_InvalidProducts, T.C_InvalidTexts, T.C_InvalidPlaces, T.C_InvalidLevels, T.C_InvalidRow, T.C_OtherLetters, T.C_NotComeTo, T.C_NeverHeard, T.C_NothingToUndo, T.C_CommandFailed, T.C_TooMany]
def grp (n : Nat) : Nat := if n < 19 then 0 else if n < 24 then 1 else 2
theorem kt_at (T : All K mg) {i j : Nat} {C D : Addr} (hi : (eCs T)[i]? = some C) (hj : (eCs T)[j]? = some D) : PySem.W.kitOne K (.ref C) (.ref D) = some (decide (i = j)) := by
  have h := List.all_eq_true.mp T.kt (C, i) (List.mem_zipIdx_iff_getElem?.mpr hi)
  have h2 := List.all_eq_true.mp h (D, j) (List.mem_zipIdx_iff_getElem?.mpr hj)
  exact of_decide_eq_true h2
theorem kg_at (T : All K mg) {i : Nat} {C : Addr} (hi : (eCs T)[i]? = some C) {v : Value} {g : Nat} (hv : (v, g) ∈ ([(.ref T.C_PartsError, 0), (.ref T.C_StateError, 1), (.ref T.C_LimitError, 2), (.type "ValueError", 0), (.type "RuntimeError", 1), (.type "ArithmeticError", 2)] : List (Value × Nat))) : PySem.W.kitOne K (.ref C) v = some (decide (grp i = g)) := by
  have h := List.all_eq_true.mp T.kg (C, i) (List.mem_zipIdx_iff_getElem?.mpr hi)
  have h2 := List.all_eq_true.mp h (v, g) hv
  exact of_decide_eq_true h2
theorem xc_at (T : All K mg) {i : Nat} {C : Addr} (e : (eCs T)[i]? = some C) : ExcC K C := by
  have hC := List.mem_of_getElem? e
  simp only [eCs, List.mem_cons, List.not_mem_nil, or_false] at hC
  rcases hC with rfl | rfl | rfl | rfl | rfl | rfl | rfl | rfl | rfl | rfl | rfl | rfl | rfl | rfl | rfl | rfl | rfl | rfl | rfl | rfl | rfl | rfl | rfl | rfl | rfl
  all_goals first | exact T.xc_InvalidText | exact T.xc_InvalidLetters | exact T.xc_InvalidLetter | exact T.xc_InvalidNumber | exact T.xc_InvalidPlace | exact T.xc_InvalidMachine | exact T.xc_InvalidProduct | exact T.xc_InvalidSum | exact T.xc_InvalidTest | exact T.xc_InvalidLine | exact T.xc_InvalidClaim | exact T.xc_InvalidCommand | exact T.xc_InvalidRows | exact T.xc_InvalidKinds | exact T.xc_InvalidProducts | exact T.xc_InvalidTexts | exact T.xc_InvalidPlaces | exact T.xc_InvalidLevels | exact T.xc_InvalidRow | exact T.xc_OtherLetters | exact T.xc_NotComeTo | exact T.xc_NeverHeard | exact T.xc_NothingToUndo | exact T.xc_CommandFailed | exact T.xc_TooMany
theorem xf_at (T : All K mg) {i : Nat} {C : Addr} (e : (eCs T)[i]? = some C) : XfC K C := by
  have hC := List.mem_of_getElem? e
  simp only [eCs, List.mem_cons, List.not_mem_nil, or_false] at hC
  rcases hC with rfl | rfl | rfl | rfl | rfl | rfl | rfl | rfl | rfl | rfl | rfl | rfl | rfl | rfl | rfl | rfl | rfl | rfl | rfl | rfl | rfl | rfl | rfl | rfl | rfl
  all_goals first | exact T.xf_InvalidText | exact T.xf_InvalidLetters | exact T.xf_InvalidLetter | exact T.xf_InvalidNumber | exact T.xf_InvalidPlace | exact T.xf_InvalidMachine | exact T.xf_InvalidProduct | exact T.xf_InvalidSum | exact T.xf_InvalidTest | exact T.xf_InvalidLine | exact T.xf_InvalidClaim | exact T.xf_InvalidCommand | exact T.xf_InvalidRows | exact T.xf_InvalidKinds | exact T.xf_InvalidProducts | exact T.xf_InvalidTexts | exact T.xf_InvalidPlaces | exact T.xf_InvalidLevels | exact T.xf_InvalidRow | exact T.xf_OtherLetters | exact T.xf_NotComeTo | exact T.xf_NeverHeard | exact T.xf_NothingToUndo | exact T.xf_CommandFailed | exact T.xf_TooMany
/-- an error of the class n, with these fields -/
def EvAt (K : PySem.W.Frag) (Cs : List Addr) (H : Hp) (v : V) (n : Nat) (fs : List (Str × V)) : Prop := ∃ (a C : Addr) (d : Option Addr), v = .ref a ∧ Cs[n]? = some C ∧ H a = some (evO C a d) ∧ (∀ dd, d = some dd → H dd = some (.xd fs)) ∧ (fs ≠ [] → ∃ dd, d = some dd) ∧ ∀ p ∈ fs, PySem.W.findIn K (.ref C) p.1 = some none
theorem EvAt.same {Cs : List Addr} {H H' : Hp} {v : V} {n : Nat} {fs : List (Str × V)} (h : EvAt K Cs H v n fs) (s : Same H H') : EvAt K Cs H' v n fs := by
  obtain ⟨a, C, d, e, h1, h2, h3, h4⟩ := h
  exact ⟨a, C, d, e, h1, s _ _ h2, fun dd q => s _ _ (h3 dd q), h4⟩
theorem EvAt.mk {Cs : List Addr} {H : Hp} {a d C : Addr} {n : Nat} {fs : List (Str × V)} (h : Cs[n]? = some C) (hda : d ≠ a) (nf : ∀ p ∈ fs, PySem.W.findIn K (.ref C) p.1 = some none) : EvAt K Cs (upd (upd H d (.xd fs)) a (evO C a (some d))) (.ref a) n fs :=
  ⟨a, C, some d, rfl, h, upd_same, (fun dd q => by cases q; rw [upd_ne hda, upd_same]), (fun _ => ⟨d, rfl⟩), nf⟩
theorem EvAt.mk0 {Cs : List Addr} {H : Hp} {a C : Addr} {n : Nat} (h : Cs[n]? = some C) : EvAt K Cs (upd H a (evO C a none)) (.ref a) n [] :=
  ⟨a, C, none, rfl, h, upd_same, (fun _ q => by cases q), (fun q => absurd rfl q), fun p hp => by cases hp⟩
/-- a list of errors -/
abbrev Evs (K : PySem.W.Frag) (Cs : List Addr) (H : Hp) (vs : List V) (es : List (Nat × List (Str × V))) : Prop := Paired (fun v (e : Nat × List (Str × V)) => EvAt K Cs H v e.1 e.2) vs es
theorem Evs.same {Cs : List Addr} {H H' : Hp} {vs : List V} {es : List (Nat × List (Str × V))} (h : Evs K Cs H vs es) (s : Same H H') : Evs K Cs H' vs es := _root_.L2.Paired.mapP h fun _ _ q => EvAt.same q s
theorem pr_app {α β : Type} {F : α → β → Prop} : ∀ {l : List α} {m : List β} {l' : List α} {m' : List β}, Paired F l m → Paired F l' m' → Paired F (l ++ l') (m ++ m')
  | _, _, _, _, .nil, h => h
  | _, _, _, _, .cons a t, h => .cons a (pr_app t h)
theorem pr_len {α β : Type} {F : α → β → Prop} : ∀ {l : List α} {m : List β}, Paired F l m → l.length = m.length
  | _, _, .nil => rfl
  | _, _, .cons _ t => congrArg (· + 1) (pr_len t)
theorem pr_get {α β : Type} {F : α → β → Prop} : ∀ {l : List α} {m : List β}, Paired F l m → ∀ {i : Nat} {a : α}, l[i]? = some a → ∃ b, m[i]? = some b ∧ F a b
  | _, _, .nil, i, a, e => by simp at e
  | _, _, .cons h t, 0, a, e => by cases e; exact ⟨_, rfl, h⟩
  | _, _, .cons h t, i + 1, a, e => pr_get t (by simpa using e)
end
/-! ### data with dicts -/
mutual
theorem DpD.same {K : PySem.W.Frag} {H H' : Hp} (s : Same H H') : ∀ {v : V} {d : PyData}, DpD K H v d → DpD K H' v d
  | _, _, .data h => .data (Dp.same s h)
  | _, _, .lst h t => .lst (sq_same h s) (DpDs.same s t)
  | _, _, .tup h t => .tup (sqT_same h s) (DpDs.same s t)
  | _, _, .dct h t e => .dct (s _ _ h) (DpDs.same s t) e
theorem DpDs.same {K : PySem.W.Frag} {H H' : Hp} (s : Same H H') : ∀ {vs : List V} {ds : List PyData}, DpDs K H vs ds → DpDs K H' vs ds
  | _, _, .nil => .nil
  | _, _, .cons h t => .cons (DpD.same s h) (DpDs.same s t)
end
theorem DpDs.app {K : PySem.W.Frag} {H : Hp} : ∀ {vs : List V} {ds : List PyData} {vs' : List V} {ds' : List PyData}, DpDs K H vs ds → DpDs K H vs' ds' → DpDs K H (vs ++ vs') (ds ++ ds')
  | _, _, _, _, .nil, h => h
  | _, _, _, _, .cons a t, h => .cons a (DpDs.app t h)
theorem DpDs.rep {K : PySem.W.Frag} {H : Hp} {v : V} {d : PyData} (h : DpD K H v d) : ∀ n, DpDs K H (List.replicate n v) (List.replicate n d)
  | 0 => .nil
  | n + 1 => .cons h (DpDs.rep h n)
structure Wd (d : PyData) (w k : Nat) : Prop where
  s : d.showable = true
  l : d.leavesShort 30 = true
  w : d.weight ≤ w
  p : d.depth ≤ k
theorem wd_all {w k : Nat} : ∀ {ds : List PyData}, (∀ d ∈ ds, Wd d w k) → PyData.showableAll ds = true ∧ PyData.leavesShortAll 30 ds = true ∧ PyData.weightAll ds ≤ (w + 1) * ds.length ∧ PyData.depthAll ds ≤ k
  | [], _ => ⟨rfl, rfl, Nat.zero_le _, Nat.zero_le _⟩
  | d :: ds, h => by
    have h1 := h d List.mem_cons_self
    obtain ⟨a, b, e, f⟩ := wd_all (ds := ds) fun x hx => h x (List.mem_cons_of_mem _ hx)
    refine ⟨?_, ?_, ?_, ?_⟩
    · show (PyData.showable d && PyData.showableAll ds) = true
      rw [h1.s, a]; rfl
    · show (PyData.leavesShort 30 d && PyData.leavesShortAll 30 ds) = true
      rw [h1.l, b]; rfl
    · show PyData.weight d + 1 + PyData.weightAll ds ≤ _
      have := h1.w
      rw [List.length_cons, Nat.mul_succ]
      omega
    · show max (PyData.depth d) (PyData.depthAll ds) ≤ k
      exact Nat.max_le.mpr ⟨h1.p, f⟩
theorem Wd.list {w k : Nat} {ds : List PyData} (h : ∀ d ∈ ds, Wd d w k) : Wd (.list ds) ((w + 1) * ds.length) (k + 1) := by
  obtain ⟨a, b, e, f⟩ := wd_all h
  exact ⟨by simpa only [PyData.showable] using a, by simpa only [PyData.leavesShort] using b, by simp only [PyData.weight]; omega, by simp only [PyData.depth]; omega⟩
theorem Wd.mono {d : PyData} {w k w' k' : Nat} (h : Wd d w k) (hw : w ≤ w') (hk : k ≤ k') : Wd d w' k' := ⟨h.s, h.l, Nat.le_trans h.w hw, Nat.le_trans h.p hk⟩
theorem Wd.len {d : PyData} {w k : Nat} (h : Wd d w k) (hw : w ≤ 6000) : d.shown.length ≤ sizeLine := by
  have h1 := PyData.shown_le 30 (by decide) d h.l
  have h2 : (30 + 2) * d.weight ≤ 32 * 6000 := Nat.mul_le_mul_left 32 (Nat.le_trans h.w hw)
  have h3 : (200000 : Nat) ≤ sizeLine := by rw [sizeLine_eq]; decide
  omega
/-- what a thing may be -/
def forms (t : Nat) : List PyData := [.none, .int t, .str (tS (repL t [119])), .list [.int t, .list []], .tuple [.int t, .tuple []], .dict [(.int t, .dict [])], .bool true, .int (-(t : Int)), .int 100000000000000000000]
def wdB (d : PyData) : Bool := d.showable && (d.leavesShort 30 && (decide (d.weight ≤ 150) && decide (d.depth ≤ 3)))
theorem wd_of {d : PyData} (h : wdB d = true) : Wd d 150 3 := by
  obtain ⟨h1, h⟩ := Bool.and_eq_true_iff.mp h
  obtain ⟨h2, h⟩ := Bool.and_eq_true_iff.mp h
  obtain ⟨h3, h4⟩ := Bool.and_eq_true_iff.mp h
  exact ⟨h1, h2, of_decide_eq_true h3, of_decide_eq_true h4⟩
theorem wd_forms {t : Nat} (ht : t < 10) {d : PyData} (h : d ∈ forms t) : Wd d 150 3 := by
  have key : (List.range 10).all (fun t => (forms t).all wdB) = true := by decide +kernel
  exact wd_of (List.all_eq_true.mp (List.all_eq_true.mp key t (List.mem_range.mpr ht)) d h)
section
variable {P : Program} {w : World} {K : PySem.W.Frag} {mg : Str → Option Value} {base : Heap}
/-! ### _law_grounds -/
def gBs (g : Nat) : List Bool := [decide (g = 0), decide (g = 1), decide (g = 2), decide (g = 0), decide (g = 1), decide (g = 2)]
def spGrounds (K : PySem.W.Frag) (Cs : List Addr) : Sp := fun vs H Q _ => ∃ (v : V) (n : Nat) (fs : List (Str × V)), vs = [v] ∧ EvAt K Cs H v n fs ∧ ∀ H' p, Same H H' → H p = none → H' p = some (.lst ((gBs (grp n)).map V.bl)) → Q (.ref p) H'
theorem ok_law_grounds (T : All K mg) : FnOk P w K mg base CX0 1 T.f_law_grounds T.d_law_grounds ["_law_e"] (spGrounds K (eCs T)) := by
  refine T.law_grounds.F.ok sc_law_grounds (fun vs H Q E h => ?_) (fun cdv A outer s H vs Q E hr h => ?_)
  · obtain ⟨v, n, fs, rfl, _⟩ := h
    rfl
  · obtain ⟨v, n, fs, rfl, hv, q⟩ := h
    refine ⟨_, pss_cons (ps_set (i := 1) sc_law_grounds.nd rfl (by first | exact Or.inl rfl | exact Or.inr rfl) (pe_lst (pa_cons (pe_callB call_isV (by rfl) T.b_isinstance boot_isinstance (pa_cons (pv 0) (pa_cons (pe_glob (v := .ref T.C_PartsError) rfl T.g_PartsError rfl) pa_nil))) (pa_cons (pe_callB call_isV (by rfl) T.b_isinstance boot_isinstance (pa_cons (pv 0) (pa_cons (pe_glob (v := .ref T.C_StateError) rfl T.g_StateError rfl) pa_nil))) (pa_cons (pe_callB call_isV (by rfl) T.b_isinstance boot_isinstance (pa_cons (pv 0) (pa_cons (pe_glob (v := .ref T.C_LimitError) rfl T.g_LimitError rfl) pa_nil))) pa_nil)))))
      (pss_one (ps_ret (pe_op op_cat (pv 1) (pe_lst (pa_cons (pe_callB call_isV (by rfl) T.b_isinstance boot_isinstance (pa_cons (pv 0) (pa_cons (pe_bltn (v := .ty "ValueError") (by rfl) T.b_ValueError (by decide +kernel) rfl) pa_nil))) (pa_cons (pe_callB call_isV (by rfl) T.b_isinstance boot_isinstance (pa_cons (pv 0) (pa_cons (pe_bltn (v := .ty "RuntimeError") (by rfl) T.b_RuntimeError (by decide +kernel) rfl) pa_nil))) (pa_cons (pe_callB call_isV (by rfl) T.b_isinstance boot_isinstance (pa_cons (pv 0) (pa_cons (pe_bltn (v := .ty "ArithmeticError") (by rfl) T.b_ArithmeticError (by decide +kernel) rfl) pa_nil))) pa_nil))))))), ?_⟩
    dsimp only [cxOf]
    obtain ⟨a, C, d, rfl, hC, ha, hd, _⟩ := hv
    have hx := xc_at T hC
    have hd1 : ∀ dd, d = some dd → ∃ fs, H dd = some (.xd fs) := fun dd e => ⟨fs, hd dd e⟩
    have kg := fun {v : Value} {g : Nat} (h : (v, g) ∈ ([(.ref T.C_PartsError, 0), (.ref T.C_StateError, 1), (.ref T.C_LimitError, 2), (.type "ValueError", 0), (.type "RuntimeError", 1), (.type "ArithmeticError", 2)] : List (Value × Nat))) => kg_at T hC h
    refine ⟨_, rfl, a, C, d, _, .ref T.C_PartsError, _, rfl, ha, hd1, hx, (fun u ru => ru), kg (g := 0) (by simp), ?_⟩
    refine ⟨_, rfl, a, C, d, _, .ref T.C_StateError, _, rfl, ha, hd1, hx, (fun u ru => ru), kg (g := 1) (by simp), ?_⟩
    refine ⟨_, rfl, a, C, d, _, .ref T.C_LimitError, _, rfl, ha, hd1, hx, (fun u ru => ru), kg (g := 2) (by simp), ?_⟩
    refine ⟨by show 3 ≤ sizeLine; decide, fun F nF => ?_⟩
    have s1 := same_upd (o := .lst [.bl (decide (grp n = 0)), .bl (decide (grp n = 1)), .bl (decide (grp n = 2))]) nF
    have hF := upd_same (H := H) (a := F) (o := .lst [.bl (decide (grp n = 0)), .bl (decide (grp n = 1)), .bl (decide (grp n = 2))])
    generalize upd H F (.lst [.bl (decide (grp n = 0)), .bl (decide (grp n = 1)), .bl (decide (grp n = 2))]) = H1 at *
    have ha := s1 _ _ ha
    have hd2 : ∀ dd, d = some dd → ∃ fs, H1 dd = some (.xd fs) := fun dd e => ⟨fs, s1 _ _ (hd dd e)⟩
    try dsimp only [gName]
    refine ⟨_, rfl, ?_⟩
    refine ⟨_, rfl, a, C, d, _, .type "ValueError", _, rfl, ha, hd2, hx, (fun u ru => ru), kg (g := 0) (by simp), ?_⟩
    refine ⟨_, rfl, a, C, d, _, .type "RuntimeError", _, rfl, ha, hd2, hx, (fun u ru => ru), kg (g := 1) (by simp), ?_⟩
    refine ⟨_, rfl, a, C, d, _, .type "ArithmeticError", _, rfl, ha, hd2, hx, (fun u ru => ru), kg (g := 2) (by simp), ?_⟩
    refine ⟨by show 3 ≤ sizeLine; decide, fun G nG => ?_⟩
    have s2 := same_upd (o := .lst [.bl (decide (grp n = 0)), .bl (decide (grp n = 1)), .bl (decide (grp n = 2))]) nG
    refine ⟨F, G, _, _, rfl, rfl, s2 _ _ hF, upd_same, by show 6 ≤ sizeLine; decide, fun p np => ?_⟩
    have s3 := s1.trans s2
    exact q _ p (s3.trans (same_upd np)) (s3.free np) upd_same
/-! ### _law_ground -/
def spGround : Sp := fun vs H Q _ => ∃ g : Nat, vs = [.int (g : Int)] ∧ ∀ H' p, Same H H' → H p = none → H' p = some (.lst ((gBs g).map V.bl)) → Q (.ref p) H'
theorem ok_law_ground (T : All K mg) : FnOk P w K mg base CX0 1 T.f_law_ground T.d_law_ground ["_law_way"] spGround := by
  refine T.law_ground.F.ok sc_law_ground (fun vs H Q E h => ?_) (fun cdv A outer s H vs Q E hr h => ?_)
  · obtain ⟨g, rfl, _⟩ := h
    rfl
  · obtain ⟨g, rfl, q⟩ := h
    refine ⟨_, pss_one (ps_ret (pe_op op_rep (pe_lc (own := [("_law_spot", 1)]) (g := gName 1) (tt := tYes) rfl sc_law_ground.nd (pi_range1 rfl T.b_range (pa_cons pe_int pa_nil))
          (blkOk_by (own := [("_law_spot", 1)]) (N := ["_law_way", "_law_spot"]) (sc := defScope s_law_ground) (by decide +kernel))
          (fun _ _ _ _ _ => pg_name (i := 1) sc_law_ground.nd rfl (by first | exact Or.inl rfl | exact Or.inr rfl)) (fun _ _ _ _ _ => pts_nil)
          (fun _ _ _ _ _ => (pe_cmpR op_eq (pv 1) (pv 0) (by rfl)))) pe_int)), ?_⟩
    try dsimp only [cxOf]
    refine ⟨3, rfl, by decide, by decide, fun D nD => ?_⟩
    refine lc_gen walk_range (Same H) (fun i acc => acc = (List.range i).map fun j => V.bl (decide (g = j))) (sz (by decide)) (fun i acc e => by rw [e, List.length_map, List.length_range]; exact Nat.le_refl _) rfl (same_upd nD) (fun _ _ h => same_up h nD) (fun _ _ => trivial) (fun i x H1 H2 acc C N hi r hD ha y c nn => ?_) (fun H1 xs r hD ha => ?_)
    · obtain ⟨rfl, rfl⟩ := y
      refine ⟨rfl, yes_te ⟨_, rfl, _, rfl, rfl, ?_⟩⟩
      refine c _ _ r hD ?_
      rw [ha, List.range_succ, List.map_append]
      have e : decide (V.int ((0 : Int) + (i : Nat)) = V.int (g : Int)) = decide (g = i) := by
        refine decide_eq_decide.mpr ⟨fun z => ?_, fun z => ?_⟩
        · injection z with z; omega
        · rw [z, Int.zero_add]
      simp only [List.map_cons, List.map_nil]
      rw [← e]
    · refine ⟨D, 2, xs, rfl, rfl, hD, by decide, by decide, ?_, fun p np => ?_⟩
      · rw [ha]; show 3 * 2 ≤ sizeLine; decide
      · refine q _ p (r.trans (same_upd np)) (r.free np) ?_
        rw [upd_same, ha]
        rfl
end
end Lw
namespace Lw
open PySem PySem.Spec PyProof.Rows L3
open L2 hiding del del_same del_ne
section
variable {P : Program} {w : World} {K : PySem.W.Frag} {mg : Str → Option Value} {base : Heap}
theorem w_is : ("w" : Str) = tS [119] := by decide +kernel
/-! ### _law_thing -/
def spThing (K : PySem.W.Frag) : Sp := fun vs H Q _ => ∃ (a : Addr) (t : Nat), vs = [.ref a, .int (t : Int)] ∧ Pot H a ∧ t < 10 ∧ ∀ H' v d, d ∈ forms t → Pot H' a → Off a H H' → DpD K (del H' a) v d → Q v H'
theorem ok_law_thing (T : All K mg) : FnOk P w K mg base CX0 3 T.f_law_thing T.d_law_thing ["_law_pot_here", "_law_turn"] (spThing K) := by
  refine T.law_thing.F.ok sc_law_thing (fun vs H Q E h => ?_) (fun cdv A outer s H vs Q E hr h => ?_)
  · obtain ⟨a, t, rfl, _⟩ := h
    rfl
  · obtain ⟨a, t, rfl, hp, ht, q⟩ := h
    refine ⟨_, pss_one (ps_ret (pe_call (ok_law_pick T) (hr.mono (by decide)) (by rfl) T.law_pick.g T.law_pick.F.kp T.law_pick.b .nil pass0 (pa_cons (pv 0) (pa_cons (pe_lst (pa_cons pe_non (pa_cons (pv 1) (pa_cons (pe_op op_mulT pe_str (pv 1)) (pa_cons (pe_lst (pa_cons (pv 1) (pa_cons (pe_lst pa_nil) pa_nil))) (pa_cons (pe_tup (pa_cons (pv 1) (pa_cons (pe_tup pa_nil) pa_nil))) (pa_cons (pe_disp (pps_cons (pv 1) pe_dnewK pps_nil) (by rfl) (by rfl) (fun z => by cases z) (by decide)) (pa_cons pe_bl (pa_cons (pe_un un_neg (pv 1)) (pa_cons (pe_op op_pow pe_int pe_int) pa_nil)))))))))) pa_nil)))), ?_⟩
    try dsimp only [cxOf]
    refine ⟨_, rfl, _, rfl, _, rfl, [119], t, congrArg V.str w_is, rfl, by omega, by simp; omega, ?_⟩
    have ne_a : ∀ {G : Hp} {b : Addr}, Same H G → G b = none → b ≠ a := fun {G b} sm n e => by
      obtain ⟨x, y, h, _⟩ := hp
      rw [e, sm _ _ h] at n
      cases n
    refine ⟨_, rfl, by show 0 ≤ sizeLine; decide, fun p1 n1 => ?_⟩
    have s1 : Same H (upd H p1 (.lst [])) := same_upd n1
    have g1 : upd H p1 (.lst []) p1 = some (.lst []) := upd_same
    have a1 := ne_a (Same.refl H) n1
    generalize upd H p1 (.lst []) = H1 at *
    refine ⟨by show 2 ≤ sizeLine; decide, fun p2 n2 => ?_⟩
    have s2 : Same H1 (upd H1 p2 (.lst [.int (t : Int), .ref p1])) := same_upd n2
    have g2 : upd H1 p2 (.lst [.int (t : Int), .ref p1]) p2 = some (.lst [.int (t : Int), .ref p1]) := upd_same
    have a2 := ne_a s1 n2
    generalize upd H1 p2 (.lst [.int (t : Int), .ref p1]) = H2 at *
    refine ⟨_, rfl, by show 0 ≤ sizeLine; decide, fun q1 m1 => ?_⟩
    have s3 : Same H2 (upd H2 q1 (.tup [])) := same_upd m1
    have g3 : upd H2 q1 (.tup []) q1 = some (.tup []) := upd_same
    have a3 := ne_a (s1.trans s2) m1
    generalize upd H2 q1 (.tup []) = H3 at *
    refine ⟨by show 2 ≤ sizeLine; decide, fun q2 m2 => ?_⟩
    have s4 : Same H3 (upd H3 q2 (.tup [.int (t : Int), .ref q1])) := same_upd m2
    have g4 : upd H3 q2 (.tup [.int (t : Int), .ref q1]) q2 = some (.tup [.int (t : Int), .ref q1]) := upd_same
    have a4 := ne_a ((s1.trans s2).trans s3) m2
    generalize upd H3 q2 (.tup [.int (t : Int), .ref q1]) = H4 at *
    have s04 := ((s1.trans s2).trans s3).trans s4
    refine fun d1 k1 => ⟨_, rfl, fun d2 k2 => ?_⟩
    have hne : d1 ≠ d2 := fun z => by rw [← z, upd_same] at k2; cases k2
    refine ⟨by rw [upd_ne hne, upd_same], [(.inl (t : Int), .ref d2)], rfl, by show 1 ≤ 15; decide, ?_⟩
    have s5 : Same H4 (upd (upd (upd H4 d1 (.dK [])) d2 (.dK [])) d1 (.dK (mergeK [] [(.inl (t : Int), .ref d2)]))) := same_up (same_up (same_upd k1) (by rw [upd_ne hne.symm] at k2; exact k2)) k1
    have g5 : upd (upd (upd H4 d1 (.dK [])) d2 (.dK [])) d1 (.dK (mergeK [] [(.inl (t : Int), .ref d2)])) d1 = some (.dK [(.inl (t : Int), .ref d2)]) := upd_same
    have g6 : upd (upd (upd H4 d1 (.dK [])) d2 (.dK [])) d1 (.dK (mergeK [] [(.inl (t : Int), .ref d2)])) d2 = some (.dK []) := by rw [upd_ne hne.symm, upd_same]
    have a5 := ne_a s04 k1
    have a6 := ne_a s04 (by rw [upd_ne hne.symm] at k2; exact k2)
    generalize upd (upd (upd H4 d1 (.dK [])) d2 (.dK [])) d1 (.dK (mergeK [] [(.inl (t : Int), .ref d2)])) = H5 at *
    refine ⟨_, rfl, (t : Int), rfl, ?_⟩
    refine ⟨10, 20, rfl, rfl, ⟨by decide, by decide, by decide⟩, ?_⟩
    refine ⟨by show 9 ≤ sizeLine; decide, fun L nL => ?_⟩
    dsimp only
    have s05 := s04.trans s5
    have aL := ne_a s05 nL
    have sL := same_upd (o := .lst [.non, .int (t : Int), tx (repL t [119]), .ref p2, .ref q2, .ref d1, .bl true, .int (-(t : Int)), .int (10 ^ (20 : Int).toNat)]) nL
    have gL := upd_same (H := H5) (a := L) (o := .lst [.non, .int (t : Int), tx (repL t [119]), .ref p2, .ref q2, .ref d1, .bl true, .int (-(t : Int)), .int (10 ^ (20 : Int).toNat)])
    generalize upd H5 L (.lst [.non, .int (t : Int), tx (repL t [119]), .ref p2, .ref q2, .ref d1, .bl true, .int (-(t : Int)), .int (10 ^ (20 : Int).toNat)]) = H6 at *
    have s06 := s05.trans sL
    have z1 : del H6 a p1 = some (.lst []) := by rw [del_ne a1]; exact (((s2.trans s3).trans s4).trans s5).trans sL _ _ g1
    have z2 : del H6 a p2 = some (.lst [.int (t : Int), .ref p1]) := by rw [del_ne a2]; exact ((s3.trans s4).trans s5).trans sL _ _ g2
    have z3 : del H6 a q1 = some (.tup []) := by rw [del_ne a3]; exact (s4.trans s5).trans sL _ _ g3
    have z4 : del H6 a q2 = some (.tup [.int (t : Int), .ref q1]) := by rw [del_ne a4]; exact s5.trans sL _ _ g4
    have z5 : del H6 a d1 = some (.dK [(.inl (t : Int), .ref d2)]) := by rw [del_ne a5]; exact sL _ _ g5
    have z6 : del H6 a d2 = some (.dK []) := by rw [del_ne a6]; exact sL _ _ g6
    have hp6 := hp.same s06
    refine ⟨a, .ref L, rfl, hp6, .inr ⟨L, _, rfl, aL, .inl (.inl gL), by simp, by show 9 ≤ 1000; decide, fun H7 v hv hp7 ho7 => ?_⟩⟩
    have key : ∃ d ∈ forms t, DpD K (del H6 a) v d := by
      simp only [List.mem_cons, List.not_mem_nil, or_false] at hv
      unfold forms
      rcases hv with rfl | rfl | rfl | rfl | rfl | rfl | rfl | rfl | rfl
      · exact ⟨.none, by simp, .data .non⟩
      · exact ⟨.int t, by simp, .data (.int _)⟩
      · exact ⟨.str (tS (repL t [119])), by simp, .data (.str _)⟩
      · exact ⟨.list [.int t, .list []], by simp, .data (.lst (.inl (.inl z2)) (.cons (.int _) (.cons (.lst (.inl (.inl z1)) .nil) .nil)))⟩
      · exact ⟨.tuple [.int t, .tuple []], by simp, .data (.tup (.inl (.inl z4)) (.cons (.int _) (.cons (.tup (.inl (.inl z3)) .nil) .nil)))⟩
      · exact ⟨.dict [(.int t, .dict [])], by simp, .dct (ds := [.dict []]) z5 (.cons (.dct (ds := []) z6 .nil rfl) .nil) rfl⟩
      · exact ⟨.bool true, by simp, .data (.bl true)⟩
      · exact ⟨.int (-(t : Int)), by simp, .data (.int _)⟩
      · exact ⟨.int 100000000000000000000, by simp, .data (.int _)⟩
    obtain ⟨d, hd, hv⟩ := key
    exact q _ v d hd hp7 ((Off.of s06).trans ho7) (DpD.same (off_del ho7) hv)
end
end Lw
namespace Lw
open PySem PySem.Spec PyProof.Rows L3
open L2 hiding del del_same del_ne
section
variable {w : World} {K : PySem.W.Frag} {mg : Str → Option Value} {base : Heap}
/-- what is made of one value: a list of errors -/
def spEvs (K : PySem.W.Frag) (Cs : List Addr) (es : V → List (Nat × List (Str × V))) : Sp := fun vs H Q _ => ∃ v : V, vs = [v] ∧ ∀ H' p xs, Same H H' → H p = none → H' p = some (.lst xs) → Evs K Cs H' xs (es v) → Q (.ref p) H'
/-! ### _law_by_value -/
def es_by_value (v : V) : List (Nat × List (Str × V)) := [(0, [("value", v)]), (1, [("value", v)]), (2, [("value", v)]), (3, [("value", v)]), (4, [("value", v)]), (5, [("value", v)]), (6, [("value", v)]), (7, [("value", v)]), (8, [("value", v)]), (9, [("value", v)]), (10, [("value", v)]), (11, [("value", v)])]
theorem ok_law_by_value (T : All K mg) : FnOk PW w K mg base CX0 2 T.f_law_by_value T.d_law_by_value ["_law_odd"] (spEvs K (eCs T) es_by_value) := by
  refine T.law_by_value.F.ok sc_law_by_value (fun vs H Q E h => ?_) (fun cdv A outer s H vs Q E hr h => ?_)
  · obtain ⟨v, rfl, _⟩ := h
    rfl
  · obtain ⟨v, rfl, q⟩ := h
    refine ⟨_, pss_cons (ps_set (i := 1) sc_law_by_value.nd rfl (by first | exact Or.inl rfl | exact Or.inr rfl) (pe_lst (pa_cons (pe_ev1 T.er_InvalidText (hr.mono (by decide)) T.g_InvalidText (pa_cons (pv 0) pa_nil)) (pa_cons (pe_ev1 T.er_InvalidLetters (hr.mono (by decide)) T.g_InvalidLetters (pa_cons (pv 0) pa_nil)) (pa_cons (pe_ev1 T.er_InvalidLetter (hr.mono (by decide)) T.g_InvalidLetter (pa_cons (pv 0) pa_nil)) (pa_cons (pe_ev1 T.er_InvalidNumber (hr.mono (by decide)) T.g_InvalidNumber (pa_cons (pv 0) pa_nil)) (pa_cons (pe_ev1 T.er_InvalidPlace (hr.mono (by decide)) T.g_InvalidPlace (pa_cons (pv 0) pa_nil)) pa_nil)))))))
      (pss_cons (ps_set (i := 1) sc_law_by_value.nd rfl (by first | exact Or.inl rfl | exact Or.inr rfl) (pe_op op_cat (pv 1) (pe_lst (pa_cons (pe_ev1 T.er_InvalidMachine (hr.mono (by decide)) T.g_InvalidMachine (pa_cons (pv 0) pa_nil)) (pa_cons (pe_ev1 T.er_InvalidProduct (hr.mono (by decide)) T.g_InvalidProduct (pa_cons (pv 0) pa_nil)) (pa_cons (pe_ev1 T.er_InvalidSum (hr.mono (by decide)) T.g_InvalidSum (pa_cons (pv 0) pa_nil)) (pa_cons (pe_ev1 T.er_InvalidTest (hr.mono (by decide)) T.g_InvalidTest (pa_cons (pv 0) pa_nil)) (pa_cons (pe_ev1 T.er_InvalidLine (hr.mono (by decide)) T.g_InvalidLine (pa_cons (pv 0) pa_nil)) pa_nil))))))))
      (pss_one (ps_ret (pe_op op_cat (pv 1) (pe_lst (pa_cons (pe_ev1 T.er_InvalidClaim (hr.mono (by decide)) T.g_InvalidClaim (pa_cons (pv 0) pa_nil)) (pa_cons (pe_ev1 T.er_InvalidCommand (hr.mono (by decide)) T.g_InvalidCommand (pa_cons (pv 0) pa_nil)) pa_nil))))))), ?_⟩
    try dsimp only [cxOf]
    obtain ⟨H0, hH0⟩ : ∃ H0, H0 = H := ⟨H, rfl⟩
    rw [← hH0] at q ⊢
    clear hH0
    refine ⟨_, rfl, _, rfl, fun a1 d1 na1 nd1 hd1 => ?_⟩
    have t1 : Same H0 (upd (upd H0 d1 (.xd [("value", v)])) a1 (evO T.C_InvalidText a1 (some d1))) := same_up (same_upd nd1) na1
    have e1 : EvAt K (eCs T) (upd (upd H0 d1 (.xd [("value", v)])) a1 (evO T.C_InvalidText a1 (some d1))) (.ref a1) 0 [("value", v)] := EvAt.mk rfl hd1 (fun p hp => by rw [List.mem_singleton.mp hp]; exact T.nf_InvalidText_value)
    generalize upd (upd H0 d1 (.xd [("value", v)])) a1 (evO T.C_InvalidText a1 (some d1)) = H1 at *
    refine ⟨_, rfl, _, rfl, fun a2 d2 na2 nd2 hd2 => ?_⟩
    have t2 : Same H1 (upd (upd H1 d2 (.xd [("value", v)])) a2 (evO T.C_InvalidLetters a2 (some d2))) := same_up (same_upd nd2) na2
    have e2 : EvAt K (eCs T) (upd (upd H1 d2 (.xd [("value", v)])) a2 (evO T.C_InvalidLetters a2 (some d2))) (.ref a2) 1 [("value", v)] := EvAt.mk rfl hd2 (fun p hp => by rw [List.mem_singleton.mp hp]; exact T.nf_InvalidLetters_value)
    generalize upd (upd H1 d2 (.xd [("value", v)])) a2 (evO T.C_InvalidLetters a2 (some d2)) = H2 at *
    refine ⟨_, rfl, _, rfl, fun a3 d3 na3 nd3 hd3 => ?_⟩
    have t3 : Same H2 (upd (upd H2 d3 (.xd [("value", v)])) a3 (evO T.C_InvalidLetter a3 (some d3))) := same_up (same_upd nd3) na3
    have e3 : EvAt K (eCs T) (upd (upd H2 d3 (.xd [("value", v)])) a3 (evO T.C_InvalidLetter a3 (some d3))) (.ref a3) 2 [("value", v)] := EvAt.mk rfl hd3 (fun p hp => by rw [List.mem_singleton.mp hp]; exact T.nf_InvalidLetter_value)
    generalize upd (upd H2 d3 (.xd [("value", v)])) a3 (evO T.C_InvalidLetter a3 (some d3)) = H3 at *
    refine ⟨_, rfl, _, rfl, fun a4 d4 na4 nd4 hd4 => ?_⟩
    have t4 : Same H3 (upd (upd H3 d4 (.xd [("value", v)])) a4 (evO T.C_InvalidNumber a4 (some d4))) := same_up (same_upd nd4) na4
    have e4 : EvAt K (eCs T) (upd (upd H3 d4 (.xd [("value", v)])) a4 (evO T.C_InvalidNumber a4 (some d4))) (.ref a4) 3 [("value", v)] := EvAt.mk rfl hd4 (fun p hp => by rw [List.mem_singleton.mp hp]; exact T.nf_InvalidNumber_value)
    generalize upd (upd H3 d4 (.xd [("value", v)])) a4 (evO T.C_InvalidNumber a4 (some d4)) = H4 at *
    refine ⟨_, rfl, _, rfl, fun a5 d5 na5 nd5 hd5 => ?_⟩
    have t5 : Same H4 (upd (upd H4 d5 (.xd [("value", v)])) a5 (evO T.C_InvalidPlace a5 (some d5))) := same_up (same_upd nd5) na5
    have e5 : EvAt K (eCs T) (upd (upd H4 d5 (.xd [("value", v)])) a5 (evO T.C_InvalidPlace a5 (some d5))) (.ref a5) 4 [("value", v)] := EvAt.mk rfl hd5 (fun p hp => by rw [List.mem_singleton.mp hp]; exact T.nf_InvalidPlace_value)
    generalize upd (upd H4 d5 (.xd [("value", v)])) a5 (evO T.C_InvalidPlace a5 (some d5)) = H5 at *
    have Ea : Evs K (eCs T) H5 [.ref a1, .ref a2, .ref a3, .ref a4, .ref a5] [(0, [("value", v)]), (1, [("value", v)]), (2, [("value", v)]), (3, [("value", v)]), (4, [("value", v)])] := .cons ((((e1.same t2).same t3).same t4).same t5) (.cons (((e2.same t3).same t4).same t5) (.cons ((e3.same t4).same t5) (.cons (e4.same t5) (.cons e5 .nil))))
    have Sa := ((((t1.trans t2).trans t3).trans t4).trans t5)
    refine ⟨by show 5 ≤ sizeLine; decide, fun Fa nFa => ?_⟩
    have sFa := same_upd (o := .lst [.ref a1, .ref a2, .ref a3, .ref a4, .ref a5]) nFa
    have hFa := upd_same (H := H5) (a := Fa) (o := .lst [.ref a1, .ref a2, .ref a3, .ref a4, .ref a5])
    have Ea := Evs.same Ea sFa
    have Sa := Sa.trans sFa
    generalize upd H5 Fa (.lst [.ref a1, .ref a2, .ref a3, .ref a4, .ref a5]) = H6 at *
    clear t1 e1 t2 e2 t3 e3 t4 e4 t5 e5 sFa nFa
    try dsimp only [gName]
    refine ⟨_, rfl, ?_⟩
    refine ⟨_, rfl, _, rfl, fun a6 d6 na6 nd6 hd6 => ?_⟩
    have t6 : Same H6 (upd (upd H6 d6 (.xd [("value", v)])) a6 (evO T.C_InvalidMachine a6 (some d6))) := same_up (same_upd nd6) na6
    have e6 : EvAt K (eCs T) (upd (upd H6 d6 (.xd [("value", v)])) a6 (evO T.C_InvalidMachine a6 (some d6))) (.ref a6) 5 [("value", v)] := EvAt.mk rfl hd6 (fun p hp => by rw [List.mem_singleton.mp hp]; exact T.nf_InvalidMachine_value)
    generalize upd (upd H6 d6 (.xd [("value", v)])) a6 (evO T.C_InvalidMachine a6 (some d6)) = H7 at *
    refine ⟨_, rfl, _, rfl, fun a7 d7 na7 nd7 hd7 => ?_⟩
    have t7 : Same H7 (upd (upd H7 d7 (.xd [("value", v)])) a7 (evO T.C_InvalidProduct a7 (some d7))) := same_up (same_upd nd7) na7
    have e7 : EvAt K (eCs T) (upd (upd H7 d7 (.xd [("value", v)])) a7 (evO T.C_InvalidProduct a7 (some d7))) (.ref a7) 6 [("value", v)] := EvAt.mk rfl hd7 (fun p hp => by rw [List.mem_singleton.mp hp]; exact T.nf_InvalidProduct_value)
    generalize upd (upd H7 d7 (.xd [("value", v)])) a7 (evO T.C_InvalidProduct a7 (some d7)) = H8 at *
    refine ⟨_, rfl, _, rfl, fun a8 d8 na8 nd8 hd8 => ?_⟩
    have t8 : Same H8 (upd (upd H8 d8 (.xd [("value", v)])) a8 (evO T.C_InvalidSum a8 (some d8))) := same_up (same_upd nd8) na8
    have e8 : EvAt K (eCs T) (upd (upd H8 d8 (.xd [("value", v)])) a8 (evO T.C_InvalidSum a8 (some d8))) (.ref a8) 7 [("value", v)] := EvAt.mk rfl hd8 (fun p hp => by rw [List.mem_singleton.mp hp]; exact T.nf_InvalidSum_value)
    generalize upd (upd H8 d8 (.xd [("value", v)])) a8 (evO T.C_InvalidSum a8 (some d8)) = H9 at *
    refine ⟨_, rfl, _, rfl, fun a9 d9 na9 nd9 hd9 => ?_⟩
    have t9 : Same H9 (upd (upd H9 d9 (.xd [("value", v)])) a9 (evO T.C_InvalidTest a9 (some d9))) := same_up (same_upd nd9) na9
    have e9 : EvAt K (eCs T) (upd (upd H9 d9 (.xd [("value", v)])) a9 (evO T.C_InvalidTest a9 (some d9))) (.ref a9) 8 [("value", v)] := EvAt.mk rfl hd9 (fun p hp => by rw [List.mem_singleton.mp hp]; exact T.nf_InvalidTest_value)
    generalize upd (upd H9 d9 (.xd [("value", v)])) a9 (evO T.C_InvalidTest a9 (some d9)) = H10 at *
    refine ⟨_, rfl, _, rfl, fun a10 d10 na10 nd10 hd10 => ?_⟩
    have t10 : Same H10 (upd (upd H10 d10 (.xd [("value", v)])) a10 (evO T.C_InvalidLine a10 (some d10))) := same_up (same_upd nd10) na10
    have e10 : EvAt K (eCs T) (upd (upd H10 d10 (.xd [("value", v)])) a10 (evO T.C_InvalidLine a10 (some d10))) (.ref a10) 9 [("value", v)] := EvAt.mk rfl hd10 (fun p hp => by rw [List.mem_singleton.mp hp]; exact T.nf_InvalidLine_value)
    generalize upd (upd H10 d10 (.xd [("value", v)])) a10 (evO T.C_InvalidLine a10 (some d10)) = H11 at *
    have Eb : Evs K (eCs T) H11 [.ref a6, .ref a7, .ref a8, .ref a9, .ref a10] [(5, [("value", v)]), (6, [("value", v)]), (7, [("value", v)]), (8, [("value", v)]), (9, [("value", v)])] := .cons ((((e6.same t7).same t8).same t9).same t10) (.cons (((e7.same t8).same t9).same t10) (.cons ((e8.same t9).same t10) (.cons (e9.same t10) (.cons e10 .nil))))
    have Sb := ((((t6.trans t7).trans t8).trans t9).trans t10)
    refine ⟨by show 5 ≤ sizeLine; decide, fun Fb nFb => ?_⟩
    have sFb := same_upd (o := .lst [.ref a6, .ref a7, .ref a8, .ref a9, .ref a10]) nFb
    have hFb := upd_same (H := H11) (a := Fb) (o := .lst [.ref a6, .ref a7, .ref a8, .ref a9, .ref a10])
    have Eb := Evs.same Eb sFb
    have Sb := Sb.trans sFb
    generalize upd H11 Fb (.lst [.ref a6, .ref a7, .ref a8, .ref a9, .ref a10]) = H12 at *
    clear t6 e6 t7 e7 t8 e8 t9 e9 t10 e10 sFb nFb
    refine ⟨Fa, Fb, _, _, rfl, rfl, Sb _ _ hFa, hFb, by show 10 ≤ sizeLine; decide, fun Fc nFc => ?_⟩
    have Ec : Evs K (eCs T) H12 ([.ref a1, .ref a2, .ref a3, .ref a4, .ref a5] ++ [.ref a6, .ref a7, .ref a8, .ref a9, .ref a10]) _ := pr_app (Evs.same Ea Sb) Eb
    have Sc := Sa.trans Sb
    have sFc := same_upd (o := .lst ([.ref a1, .ref a2, .ref a3, .ref a4, .ref a5] ++ [.ref a6, .ref a7, .ref a8, .ref a9, .ref a10])) nFc
    have hFc := upd_same (H := H12) (a := Fc) (o := .lst ([.ref a1, .ref a2, .ref a3, .ref a4, .ref a5] ++ [.ref a6, .ref a7, .ref a8, .ref a9, .ref a10]))
    generalize upd H12 Fc (.lst ([.ref a1, .ref a2, .ref a3, .ref a4, .ref a5] ++ [.ref a6, .ref a7, .ref a8, .ref a9, .ref a10])) = H13 at *
    have Ec := Evs.same Ec sFc
    have Sc := Sc.trans sFc
    clear sFc nFc Ea Eb Sa Sb
    try dsimp only [gName]
    refine ⟨_, rfl, ?_⟩
    refine ⟨_, rfl, _, rfl, fun a11 d11 na11 nd11 hd11 => ?_⟩
    have t11 : Same H13 (upd (upd H13 d11 (.xd [("value", v)])) a11 (evO T.C_InvalidClaim a11 (some d11))) := same_up (same_upd nd11) na11
    have e11 : EvAt K (eCs T) (upd (upd H13 d11 (.xd [("value", v)])) a11 (evO T.C_InvalidClaim a11 (some d11))) (.ref a11) 10 [("value", v)] := EvAt.mk rfl hd11 (fun p hp => by rw [List.mem_singleton.mp hp]; exact T.nf_InvalidClaim_value)
    generalize upd (upd H13 d11 (.xd [("value", v)])) a11 (evO T.C_InvalidClaim a11 (some d11)) = H14 at *
    refine ⟨_, rfl, _, rfl, fun a12 d12 na12 nd12 hd12 => ?_⟩
    have t12 : Same H14 (upd (upd H14 d12 (.xd [("value", v)])) a12 (evO T.C_InvalidCommand a12 (some d12))) := same_up (same_upd nd12) na12
    have e12 : EvAt K (eCs T) (upd (upd H14 d12 (.xd [("value", v)])) a12 (evO T.C_InvalidCommand a12 (some d12))) (.ref a12) 11 [("value", v)] := EvAt.mk rfl hd12 (fun p hp => by rw [List.mem_singleton.mp hp]; exact T.nf_InvalidCommand_value)
    generalize upd (upd H14 d12 (.xd [("value", v)])) a12 (evO T.C_InvalidCommand a12 (some d12)) = H15 at *
    have Ed : Evs K (eCs T) H15 [.ref a11, .ref a12] [(10, [("value", v)]), (11, [("value", v)])] := .cons (e11.same t12) (.cons e12 .nil)
    have Sd := (t11.trans t12)
    refine ⟨by show 2 ≤ sizeLine; decide, fun Fd nFd => ?_⟩
    have sFd := same_upd (o := .lst [.ref a11, .ref a12]) nFd
    have hFd := upd_same (H := H15) (a := Fd) (o := .lst [.ref a11, .ref a12])
    have Ed := Evs.same Ed sFd
    have Sd := Sd.trans sFd
    generalize upd H15 Fd (.lst [.ref a11, .ref a12]) = H16 at *
    clear t11 e11 t12 e12 sFd nFd
    refine ⟨Fc, Fd, _, _, rfl, rfl, Sd _ _ hFc, hFd, by show 12 ≤ sizeLine; decide, fun Fe nFe => ?_⟩
    have Ee : Evs K (eCs T) H16 (([.ref a1, .ref a2, .ref a3, .ref a4, .ref a5] ++ [.ref a6, .ref a7, .ref a8, .ref a9, .ref a10]) ++ [.ref a11, .ref a12]) _ := pr_app (Evs.same Ec Sd) Ed
    have Se := Sc.trans Sd
    exact q _ Fe _ (Se.trans (same_upd nFe)) (Se.free nFe) upd_same (Evs.same Ee (same_upd nFe))
/-! ### _law_by_named_value -/
def es_by_named_value (v : V) : List (Nat × List (Str × V)) := [(0, [("value", v)]), (1, [("value", v)]), (2, [("value", v)]), (3, [("value", v)]), (4, [("value", v)]), (5, [("value", v)]), (6, [("value", v)]), (7, [("value", v)]), (8, [("value", v)]), (9, [("value", v)]), (10, [("value", v)]), (11, [("value", v)])]
theorem ok_law_by_named_value (T : All K mg) : FnOk PW w K mg base CX0 2 T.f_law_by_named_value T.d_law_by_named_value ["_law_odd"] (spEvs K (eCs T) es_by_named_value) := by
  refine T.law_by_named_value.F.ok sc_law_by_named_value (fun vs H Q E h => ?_) (fun cdv A outer s H vs Q E hr h => ?_)
  · obtain ⟨v, rfl, _⟩ := h
    rfl
  · obtain ⟨v, rfl, q⟩ := h
    refine ⟨_, pss_cons (ps_set (i := 1) sc_law_by_named_value.nd rfl (by first | exact Or.inl rfl | exact Or.inr rfl) (pe_lst (pa_cons (pe_ev1K T.er_InvalidText (hr.mono (by decide)) T.g_InvalidText (pk_cons (pv 0) pk_nil)) (pa_cons (pe_ev1K T.er_InvalidLetters (hr.mono (by decide)) T.g_InvalidLetters (pk_cons (pv 0) pk_nil)) (pa_cons (pe_ev1K T.er_InvalidLetter (hr.mono (by decide)) T.g_InvalidLetter (pk_cons (pv 0) pk_nil)) (pa_cons (pe_ev1K T.er_InvalidNumber (hr.mono (by decide)) T.g_InvalidNumber (pk_cons (pv 0) pk_nil)) pa_nil))))))
      (pss_cons (ps_set (i := 1) sc_law_by_named_value.nd rfl (by first | exact Or.inl rfl | exact Or.inr rfl) (pe_op op_cat (pv 1) (pe_lst (pa_cons (pe_ev1K T.er_InvalidPlace (hr.mono (by decide)) T.g_InvalidPlace (pk_cons (pv 0) pk_nil)) (pa_cons (pe_ev1K T.er_InvalidMachine (hr.mono (by decide)) T.g_InvalidMachine (pk_cons (pv 0) pk_nil)) (pa_cons (pe_ev1K T.er_InvalidProduct (hr.mono (by decide)) T.g_InvalidProduct (pk_cons (pv 0) pk_nil)) pa_nil))))))
      (pss_cons (ps_set (i := 1) sc_law_by_named_value.nd rfl (by first | exact Or.inl rfl | exact Or.inr rfl) (pe_op op_cat (pv 1) (pe_lst (pa_cons (pe_ev1K T.er_InvalidSum (hr.mono (by decide)) T.g_InvalidSum (pk_cons (pv 0) pk_nil)) (pa_cons (pe_ev1K T.er_InvalidTest (hr.mono (by decide)) T.g_InvalidTest (pk_cons (pv 0) pk_nil)) (pa_cons (pe_ev1K T.er_InvalidLine (hr.mono (by decide)) T.g_InvalidLine (pk_cons (pv 0) pk_nil)) (pa_cons (pe_ev1K T.er_InvalidClaim (hr.mono (by decide)) T.g_InvalidClaim (pk_cons (pv 0) pk_nil)) pa_nil)))))))
      (pss_one (ps_ret (pe_op op_cat (pv 1) (pe_lst (pa_cons (pe_ev1K T.er_InvalidCommand (hr.mono (by decide)) T.g_InvalidCommand (pk_cons (pv 0) pk_nil)) pa_nil))))))), ?_⟩
    try dsimp only [cxOf]
    obtain ⟨H0, hH0⟩ : ∃ H0, H0 = H := ⟨H, rfl⟩
    rw [← hH0] at q ⊢
    clear hH0
    refine ⟨_, rfl, _, rfl, fun a1 d1 na1 nd1 hd1 => ?_⟩
    have t1 : Same H0 (upd (upd H0 d1 (.xd [("value", v)])) a1 (evO T.C_InvalidText a1 (some d1))) := same_up (same_upd nd1) na1
    have e1 : EvAt K (eCs T) (upd (upd H0 d1 (.xd [("value", v)])) a1 (evO T.C_InvalidText a1 (some d1))) (.ref a1) 0 [("value", v)] := EvAt.mk rfl hd1 (fun p hp => by rw [List.mem_singleton.mp hp]; exact T.nf_InvalidText_value)
    generalize upd (upd H0 d1 (.xd [("value", v)])) a1 (evO T.C_InvalidText a1 (some d1)) = H1 at *
    refine ⟨_, rfl, _, rfl, fun a2 d2 na2 nd2 hd2 => ?_⟩
    have t2 : Same H1 (upd (upd H1 d2 (.xd [("value", v)])) a2 (evO T.C_InvalidLetters a2 (some d2))) := same_up (same_upd nd2) na2
    have e2 : EvAt K (eCs T) (upd (upd H1 d2 (.xd [("value", v)])) a2 (evO T.C_InvalidLetters a2 (some d2))) (.ref a2) 1 [("value", v)] := EvAt.mk rfl hd2 (fun p hp => by rw [List.mem_singleton.mp hp]; exact T.nf_InvalidLetters_value)
    generalize upd (upd H1 d2 (.xd [("value", v)])) a2 (evO T.C_InvalidLetters a2 (some d2)) = H2 at *
    refine ⟨_, rfl, _, rfl, fun a3 d3 na3 nd3 hd3 => ?_⟩
    have t3 : Same H2 (upd (upd H2 d3 (.xd [("value", v)])) a3 (evO T.C_InvalidLetter a3 (some d3))) := same_up (same_upd nd3) na3
    have e3 : EvAt K (eCs T) (upd (upd H2 d3 (.xd [("value", v)])) a3 (evO T.C_InvalidLetter a3 (some d3))) (.ref a3) 2 [("value", v)] := EvAt.mk rfl hd3 (fun p hp => by rw [List.mem_singleton.mp hp]; exact T.nf_InvalidLetter_value)
    generalize upd (upd H2 d3 (.xd [("value", v)])) a3 (evO T.C_InvalidLetter a3 (some d3)) = H3 at *
    refine ⟨_, rfl, _, rfl, fun a4 d4 na4 nd4 hd4 => ?_⟩
    have t4 : Same H3 (upd (upd H3 d4 (.xd [("value", v)])) a4 (evO T.C_InvalidNumber a4 (some d4))) := same_up (same_upd nd4) na4
    have e4 : EvAt K (eCs T) (upd (upd H3 d4 (.xd [("value", v)])) a4 (evO T.C_InvalidNumber a4 (some d4))) (.ref a4) 3 [("value", v)] := EvAt.mk rfl hd4 (fun p hp => by rw [List.mem_singleton.mp hp]; exact T.nf_InvalidNumber_value)
    generalize upd (upd H3 d4 (.xd [("value", v)])) a4 (evO T.C_InvalidNumber a4 (some d4)) = H4 at *
    have Ea : Evs K (eCs T) H4 [.ref a1, .ref a2, .ref a3, .ref a4] [(0, [("value", v)]), (1, [("value", v)]), (2, [("value", v)]), (3, [("value", v)])] := .cons (((e1.same t2).same t3).same t4) (.cons ((e2.same t3).same t4) (.cons (e3.same t4) (.cons e4 .nil)))
    have Sa := (((t1.trans t2).trans t3).trans t4)
    refine ⟨by show 4 ≤ sizeLine; decide, fun Fa nFa => ?_⟩
    have sFa := same_upd (o := .lst [.ref a1, .ref a2, .ref a3, .ref a4]) nFa
    have hFa := upd_same (H := H4) (a := Fa) (o := .lst [.ref a1, .ref a2, .ref a3, .ref a4])
    have Ea := Evs.same Ea sFa
    have Sa := Sa.trans sFa
    generalize upd H4 Fa (.lst [.ref a1, .ref a2, .ref a3, .ref a4]) = H5 at *
    clear t1 e1 t2 e2 t3 e3 t4 e4 sFa nFa
    try dsimp only [gName]
    refine ⟨_, rfl, ?_⟩
    refine ⟨_, rfl, _, rfl, fun a5 d5 na5 nd5 hd5 => ?_⟩
    have t5 : Same H5 (upd (upd H5 d5 (.xd [("value", v)])) a5 (evO T.C_InvalidPlace a5 (some d5))) := same_up (same_upd nd5) na5
    have e5 : EvAt K (eCs T) (upd (upd H5 d5 (.xd [("value", v)])) a5 (evO T.C_InvalidPlace a5 (some d5))) (.ref a5) 4 [("value", v)] := EvAt.mk rfl hd5 (fun p hp => by rw [List.mem_singleton.mp hp]; exact T.nf_InvalidPlace_value)
    generalize upd (upd H5 d5 (.xd [("value", v)])) a5 (evO T.C_InvalidPlace a5 (some d5)) = H6 at *
    refine ⟨_, rfl, _, rfl, fun a6 d6 na6 nd6 hd6 => ?_⟩
    have t6 : Same H6 (upd (upd H6 d6 (.xd [("value", v)])) a6 (evO T.C_InvalidMachine a6 (some d6))) := same_up (same_upd nd6) na6
    have e6 : EvAt K (eCs T) (upd (upd H6 d6 (.xd [("value", v)])) a6 (evO T.C_InvalidMachine a6 (some d6))) (.ref a6) 5 [("value", v)] := EvAt.mk rfl hd6 (fun p hp => by rw [List.mem_singleton.mp hp]; exact T.nf_InvalidMachine_value)
    generalize upd (upd H6 d6 (.xd [("value", v)])) a6 (evO T.C_InvalidMachine a6 (some d6)) = H7 at *
    refine ⟨_, rfl, _, rfl, fun a7 d7 na7 nd7 hd7 => ?_⟩
    have t7 : Same H7 (upd (upd H7 d7 (.xd [("value", v)])) a7 (evO T.C_InvalidProduct a7 (some d7))) := same_up (same_upd nd7) na7
    have e7 : EvAt K (eCs T) (upd (upd H7 d7 (.xd [("value", v)])) a7 (evO T.C_InvalidProduct a7 (some d7))) (.ref a7) 6 [("value", v)] := EvAt.mk rfl hd7 (fun p hp => by rw [List.mem_singleton.mp hp]; exact T.nf_InvalidProduct_value)
    generalize upd (upd H7 d7 (.xd [("value", v)])) a7 (evO T.C_InvalidProduct a7 (some d7)) = H8 at *
    have Eb : Evs K (eCs T) H8 [.ref a5, .ref a6, .ref a7] [(4, [("value", v)]), (5, [("value", v)]), (6, [("value", v)])] := .cons ((e5.same t6).same t7) (.cons (e6.same t7) (.cons e7 .nil))
    have Sb := ((t5.trans t6).trans t7)
    refine ⟨by show 3 ≤ sizeLine; decide, fun Fb nFb => ?_⟩
    have sFb := same_upd (o := .lst [.ref a5, .ref a6, .ref a7]) nFb
    have hFb := upd_same (H := H8) (a := Fb) (o := .lst [.ref a5, .ref a6, .ref a7])
    have Eb := Evs.same Eb sFb
    have Sb := Sb.trans sFb
    generalize upd H8 Fb (.lst [.ref a5, .ref a6, .ref a7]) = H9 at *
    clear t5 e5 t6 e6 t7 e7 sFb nFb
    refine ⟨Fa, Fb, _, _, rfl, rfl, Sb _ _ hFa, hFb, by show 7 ≤ sizeLine; decide, fun Fc nFc => ?_⟩
    have Ec : Evs K (eCs T) H9 ([.ref a1, .ref a2, .ref a3, .ref a4] ++ [.ref a5, .ref a6, .ref a7]) _ := pr_app (Evs.same Ea Sb) Eb
    have Sc := Sa.trans Sb
    have sFc := same_upd (o := .lst ([.ref a1, .ref a2, .ref a3, .ref a4] ++ [.ref a5, .ref a6, .ref a7])) nFc
    have hFc := upd_same (H := H9) (a := Fc) (o := .lst ([.ref a1, .ref a2, .ref a3, .ref a4] ++ [.ref a5, .ref a6, .ref a7]))
    generalize upd H9 Fc (.lst ([.ref a1, .ref a2, .ref a3, .ref a4] ++ [.ref a5, .ref a6, .ref a7])) = H10 at *
    have Ec := Evs.same Ec sFc
    have Sc := Sc.trans sFc
    clear sFc nFc Ea Eb Sa Sb
    try dsimp only [gName]
    refine ⟨_, rfl, ?_⟩
    refine ⟨_, rfl, _, rfl, fun a8 d8 na8 nd8 hd8 => ?_⟩
    have t8 : Same H10 (upd (upd H10 d8 (.xd [("value", v)])) a8 (evO T.C_InvalidSum a8 (some d8))) := same_up (same_upd nd8) na8
    have e8 : EvAt K (eCs T) (upd (upd H10 d8 (.xd [("value", v)])) a8 (evO T.C_InvalidSum a8 (some d8))) (.ref a8) 7 [("value", v)] := EvAt.mk rfl hd8 (fun p hp => by rw [List.mem_singleton.mp hp]; exact T.nf_InvalidSum_value)
    generalize upd (upd H10 d8 (.xd [("value", v)])) a8 (evO T.C_InvalidSum a8 (some d8)) = H11 at *
    refine ⟨_, rfl, _, rfl, fun a9 d9 na9 nd9 hd9 => ?_⟩
    have t9 : Same H11 (upd (upd H11 d9 (.xd [("value", v)])) a9 (evO T.C_InvalidTest a9 (some d9))) := same_up (same_upd nd9) na9
    have e9 : EvAt K (eCs T) (upd (upd H11 d9 (.xd [("value", v)])) a9 (evO T.C_InvalidTest a9 (some d9))) (.ref a9) 8 [("value", v)] := EvAt.mk rfl hd9 (fun p hp => by rw [List.mem_singleton.mp hp]; exact T.nf_InvalidTest_value)
    generalize upd (upd H11 d9 (.xd [("value", v)])) a9 (evO T.C_InvalidTest a9 (some d9)) = H12 at *
    refine ⟨_, rfl, _, rfl, fun a10 d10 na10 nd10 hd10 => ?_⟩
    have t10 : Same H12 (upd (upd H12 d10 (.xd [("value", v)])) a10 (evO T.C_InvalidLine a10 (some d10))) := same_up (same_upd nd10) na10
    have e10 : EvAt K (eCs T) (upd (upd H12 d10 (.xd [("value", v)])) a10 (evO T.C_InvalidLine a10 (some d10))) (.ref a10) 9 [("value", v)] := EvAt.mk rfl hd10 (fun p hp => by rw [List.mem_singleton.mp hp]; exact T.nf_InvalidLine_value)
    generalize upd (upd H12 d10 (.xd [("value", v)])) a10 (evO T.C_InvalidLine a10 (some d10)) = H13 at *
    refine ⟨_, rfl, _, rfl, fun a11 d11 na11 nd11 hd11 => ?_⟩
    have t11 : Same H13 (upd (upd H13 d11 (.xd [("value", v)])) a11 (evO T.C_InvalidClaim a11 (some d11))) := same_up (same_upd nd11) na11
    have e11 : EvAt K (eCs T) (upd (upd H13 d11 (.xd [("value", v)])) a11 (evO T.C_InvalidClaim a11 (some d11))) (.ref a11) 10 [("value", v)] := EvAt.mk rfl hd11 (fun p hp => by rw [List.mem_singleton.mp hp]; exact T.nf_InvalidClaim_value)
    generalize upd (upd H13 d11 (.xd [("value", v)])) a11 (evO T.C_InvalidClaim a11 (some d11)) = H14 at *
    have Ed : Evs K (eCs T) H14 [.ref a8, .ref a9, .ref a10, .ref a11] [(7, [("value", v)]), (8, [("value", v)]), (9, [("value", v)]), (10, [("value", v)])] := .cons (((e8.same t9).same t10).same t11) (.cons ((e9.same t10).same t11) (.cons (e10.same t11) (.cons e11 .nil)))
    have Sd := (((t8.trans t9).trans t10).trans t11)
    refine ⟨by show 4 ≤ sizeLine; decide, fun Fd nFd => ?_⟩
    have sFd := same_upd (o := .lst [.ref a8, .ref a9, .ref a10, .ref a11]) nFd
    have hFd := upd_same (H := H14) (a := Fd) (o := .lst [.ref a8, .ref a9, .ref a10, .ref a11])
    have Ed := Evs.same Ed sFd
    have Sd := Sd.trans sFd
    generalize upd H14 Fd (.lst [.ref a8, .ref a9, .ref a10, .ref a11]) = H15 at *
    clear t8 e8 t9 e9 t10 e10 t11 e11 sFd nFd
    refine ⟨Fc, Fd, _, _, rfl, rfl, Sd _ _ hFc, hFd, by show 11 ≤ sizeLine; decide, fun Fe nFe => ?_⟩
    have Ee : Evs K (eCs T) H15 (([.ref a1, .ref a2, .ref a3, .ref a4] ++ [.ref a5, .ref a6, .ref a7]) ++ [.ref a8, .ref a9, .ref a10, .ref a11]) _ := pr_app (Evs.same Ec Sd) Ed
    have Se := Sc.trans Sd
    have sFe := same_upd (o := .lst (([.ref a1, .ref a2, .ref a3, .ref a4] ++ [.ref a5, .ref a6, .ref a7]) ++ [.ref a8, .ref a9, .ref a10, .ref a11])) nFe
    have hFe := upd_same (H := H15) (a := Fe) (o := .lst (([.ref a1, .ref a2, .ref a3, .ref a4] ++ [.ref a5, .ref a6, .ref a7]) ++ [.ref a8, .ref a9, .ref a10, .ref a11]))
    generalize upd H15 Fe (.lst (([.ref a1, .ref a2, .ref a3, .ref a4] ++ [.ref a5, .ref a6, .ref a7]) ++ [.ref a8, .ref a9, .ref a10, .ref a11])) = H16 at *
    have Ee := Evs.same Ee sFe
    have Se := Se.trans sFe
    clear sFe nFe Ec Ed Sc Sd
    try dsimp only [gName]
    refine ⟨_, rfl, ?_⟩
    refine ⟨_, rfl, _, rfl, fun a12 d12 na12 nd12 hd12 => ?_⟩
    have t12 : Same H16 (upd (upd H16 d12 (.xd [("value", v)])) a12 (evO T.C_InvalidCommand a12 (some d12))) := same_up (same_upd nd12) na12
    have e12 : EvAt K (eCs T) (upd (upd H16 d12 (.xd [("value", v)])) a12 (evO T.C_InvalidCommand a12 (some d12))) (.ref a12) 11 [("value", v)] := EvAt.mk rfl hd12 (fun p hp => by rw [List.mem_singleton.mp hp]; exact T.nf_InvalidCommand_value)
    generalize upd (upd H16 d12 (.xd [("value", v)])) a12 (evO T.C_InvalidCommand a12 (some d12)) = H17 at *
    have Ef : Evs K (eCs T) H17 [.ref a12] [(11, [("value", v)])] := .cons e12 .nil
    have Sf := t12
    refine ⟨by show 1 ≤ sizeLine; decide, fun Ff nFf => ?_⟩
    have sFf := same_upd (o := .lst [.ref a12]) nFf
    have hFf := upd_same (H := H17) (a := Ff) (o := .lst [.ref a12])
    have Ef := Evs.same Ef sFf
    have Sf := Sf.trans sFf
    generalize upd H17 Ff (.lst [.ref a12]) = H18 at *
    clear t12 e12 sFf nFf
    refine ⟨Fe, Ff, _, _, rfl, rfl, Sf _ _ hFe, hFf, by show 12 ≤ sizeLine; decide, fun Fg nFg => ?_⟩
    have Eg : Evs K (eCs T) H18 ((([.ref a1, .ref a2, .ref a3, .ref a4] ++ [.ref a5, .ref a6, .ref a7]) ++ [.ref a8, .ref a9, .ref a10, .ref a11]) ++ [.ref a12]) _ := pr_app (Evs.same Ee Sf) Ef
    have Sg := Se.trans Sf
    exact q _ Fg _ (Sg.trans (same_upd nFg)) (Sg.free nFg) upd_same (Evs.same Eg (same_upd nFg))
/-! ### _law_by_position -/
def es_by_position (v : V) : List (Nat × List (Str × V)) := [(12, [("position", v)]), (13, [("position", v)]), (14, [("position", v)]), (15, [("position", v)]), (16, [("position", v)]), (17, [("position", v)])]
theorem ok_law_by_position (T : All K mg) : FnOk PW w K mg base CX0 2 T.f_law_by_position T.d_law_by_position ["_law_odd"] (spEvs K (eCs T) es_by_position) := by
  refine T.law_by_position.F.ok sc_law_by_position (fun vs H Q E h => ?_) (fun cdv A outer s H vs Q E hr h => ?_)
  · obtain ⟨v, rfl, _⟩ := h
    rfl
  · obtain ⟨v, rfl, q⟩ := h
    refine ⟨_, pss_cons (ps_set (i := 1) sc_law_by_position.nd rfl (by first | exact Or.inl rfl | exact Or.inr rfl) (pe_lst (pa_cons (pe_ev1 T.er_InvalidRows (hr.mono (by decide)) T.g_InvalidRows (pa_cons (pv 0) pa_nil)) (pa_cons (pe_ev1 T.er_InvalidKinds (hr.mono (by decide)) T.g_InvalidKinds (pa_cons (pv 0) pa_nil)) (pa_cons (pe_ev1 T.er_InvalidProducts (hr.mono (by decide)) T.g_InvalidProducts (pa_cons (pv 0) pa_nil)) (pa_cons (pe_ev1 T.er_InvalidTexts (hr.mono (by decide)) T.g_InvalidTexts (pa_cons (pv 0) pa_nil)) (pa_cons (pe_ev1 T.er_InvalidPlaces (hr.mono (by decide)) T.g_InvalidPlaces (pa_cons (pv 0) pa_nil)) pa_nil)))))))
      (pss_one (ps_ret (pe_op op_cat (pv 1) (pe_lst (pa_cons (pe_ev1 T.er_InvalidLevels (hr.mono (by decide)) T.g_InvalidLevels (pa_cons (pv 0) pa_nil)) pa_nil))))), ?_⟩
    try dsimp only [cxOf]
    obtain ⟨H0, hH0⟩ : ∃ H0, H0 = H := ⟨H, rfl⟩
    rw [← hH0] at q ⊢
    clear hH0
    refine ⟨_, rfl, _, rfl, fun a1 d1 na1 nd1 hd1 => ?_⟩
    have t1 : Same H0 (upd (upd H0 d1 (.xd [("position", v)])) a1 (evO T.C_InvalidRows a1 (some d1))) := same_up (same_upd nd1) na1
    have e1 : EvAt K (eCs T) (upd (upd H0 d1 (.xd [("position", v)])) a1 (evO T.C_InvalidRows a1 (some d1))) (.ref a1) 12 [("position", v)] := EvAt.mk rfl hd1 (fun p hp => by rw [List.mem_singleton.mp hp]; exact T.nf_InvalidRows_position)
    generalize upd (upd H0 d1 (.xd [("position", v)])) a1 (evO T.C_InvalidRows a1 (some d1)) = H1 at *
    refine ⟨_, rfl, _, rfl, fun a2 d2 na2 nd2 hd2 => ?_⟩
    have t2 : Same H1 (upd (upd H1 d2 (.xd [("position", v)])) a2 (evO T.C_InvalidKinds a2 (some d2))) := same_up (same_upd nd2) na2
    have e2 : EvAt K (eCs T) (upd (upd H1 d2 (.xd [("position", v)])) a2 (evO T.C_InvalidKinds a2 (some d2))) (.ref a2) 13 [("position", v)] := EvAt.mk rfl hd2 (fun p hp => by rw [List.mem_singleton.mp hp]; exact T.nf_InvalidKinds_position)
    generalize upd (upd H1 d2 (.xd [("position", v)])) a2 (evO T.C_InvalidKinds a2 (some d2)) = H2 at *
    refine ⟨_, rfl, _, rfl, fun a3 d3 na3 nd3 hd3 => ?_⟩
    have t3 : Same H2 (upd (upd H2 d3 (.xd [("position", v)])) a3 (evO T.C_InvalidProducts a3 (some d3))) := same_up (same_upd nd3) na3
    have e3 : EvAt K (eCs T) (upd (upd H2 d3 (.xd [("position", v)])) a3 (evO T.C_InvalidProducts a3 (some d3))) (.ref a3) 14 [("position", v)] := EvAt.mk rfl hd3 (fun p hp => by rw [List.mem_singleton.mp hp]; exact T.nf_InvalidProducts_position)
    generalize upd (upd H2 d3 (.xd [("position", v)])) a3 (evO T.C_InvalidProducts a3 (some d3)) = H3 at *
    refine ⟨_, rfl, _, rfl, fun a4 d4 na4 nd4 hd4 => ?_⟩
    have t4 : Same H3 (upd (upd H3 d4 (.xd [("position", v)])) a4 (evO T.C_InvalidTexts a4 (some d4))) := same_up (same_upd nd4) na4
    have e4 : EvAt K (eCs T) (upd (upd H3 d4 (.xd [("position", v)])) a4 (evO T.C_InvalidTexts a4 (some d4))) (.ref a4) 15 [("position", v)] := EvAt.mk rfl hd4 (fun p hp => by rw [List.mem_singleton.mp hp]; exact T.nf_InvalidTexts_position)
    generalize upd (upd H3 d4 (.xd [("position", v)])) a4 (evO T.C_InvalidTexts a4 (some d4)) = H4 at *
    refine ⟨_, rfl, _, rfl, fun a5 d5 na5 nd5 hd5 => ?_⟩
    have t5 : Same H4 (upd (upd H4 d5 (.xd [("position", v)])) a5 (evO T.C_InvalidPlaces a5 (some d5))) := same_up (same_upd nd5) na5
    have e5 : EvAt K (eCs T) (upd (upd H4 d5 (.xd [("position", v)])) a5 (evO T.C_InvalidPlaces a5 (some d5))) (.ref a5) 16 [("position", v)] := EvAt.mk rfl hd5 (fun p hp => by rw [List.mem_singleton.mp hp]; exact T.nf_InvalidPlaces_position)
    generalize upd (upd H4 d5 (.xd [("position", v)])) a5 (evO T.C_InvalidPlaces a5 (some d5)) = H5 at *
    have Ea : Evs K (eCs T) H5 [.ref a1, .ref a2, .ref a3, .ref a4, .ref a5] [(12, [("position", v)]), (13, [("position", v)]), (14, [("position", v)]), (15, [("position", v)]), (16, [("position", v)])] := .cons ((((e1.same t2).same t3).same t4).same t5) (.cons (((e2.same t3).same t4).same t5) (.cons ((e3.same t4).same t5) (.cons (e4.same t5) (.cons e5 .nil))))
    have Sa := ((((t1.trans t2).trans t3).trans t4).trans t5)
    refine ⟨by show 5 ≤ sizeLine; decide, fun Fa nFa => ?_⟩
    have sFa := same_upd (o := .lst [.ref a1, .ref a2, .ref a3, .ref a4, .ref a5]) nFa
    have hFa := upd_same (H := H5) (a := Fa) (o := .lst [.ref a1, .ref a2, .ref a3, .ref a4, .ref a5])
    have Ea := Evs.same Ea sFa
    have Sa := Sa.trans sFa
    generalize upd H5 Fa (.lst [.ref a1, .ref a2, .ref a3, .ref a4, .ref a5]) = H6 at *
    clear t1 e1 t2 e2 t3 e3 t4 e4 t5 e5 sFa nFa
    try dsimp only [gName]
    refine ⟨_, rfl, ?_⟩
    refine ⟨_, rfl, _, rfl, fun a6 d6 na6 nd6 hd6 => ?_⟩
    have t6 : Same H6 (upd (upd H6 d6 (.xd [("position", v)])) a6 (evO T.C_InvalidLevels a6 (some d6))) := same_up (same_upd nd6) na6
    have e6 : EvAt K (eCs T) (upd (upd H6 d6 (.xd [("position", v)])) a6 (evO T.C_InvalidLevels a6 (some d6))) (.ref a6) 17 [("position", v)] := EvAt.mk rfl hd6 (fun p hp => by rw [List.mem_singleton.mp hp]; exact T.nf_InvalidLevels_position)
    generalize upd (upd H6 d6 (.xd [("position", v)])) a6 (evO T.C_InvalidLevels a6 (some d6)) = H7 at *
    have Eb : Evs K (eCs T) H7 [.ref a6] [(17, [("position", v)])] := .cons e6 .nil
    have Sb := t6
    refine ⟨by show 1 ≤ sizeLine; decide, fun Fb nFb => ?_⟩
    have sFb := same_upd (o := .lst [.ref a6]) nFb
    have hFb := upd_same (H := H7) (a := Fb) (o := .lst [.ref a6])
    have Eb := Evs.same Eb sFb
    have Sb := Sb.trans sFb
    generalize upd H7 Fb (.lst [.ref a6]) = H8 at *
    clear t6 e6 sFb nFb
    refine ⟨Fa, Fb, _, _, rfl, rfl, Sb _ _ hFa, hFb, by show 6 ≤ sizeLine; decide, fun Fc nFc => ?_⟩
    have Ec : Evs K (eCs T) H8 ([.ref a1, .ref a2, .ref a3, .ref a4, .ref a5] ++ [.ref a6]) _ := pr_app (Evs.same Ea Sb) Eb
    have Sc := Sa.trans Sb
    exact q _ Fc _ (Sc.trans (same_upd nFc)) (Sc.free nFc) upd_same (Evs.same Ec (same_upd nFc))
/-! ### _law_by_named_position -/
def es_by_named_position (v : V) : List (Nat × List (Str × V)) := [(12, [("position", v)]), (13, [("position", v)]), (14, [("position", v)]), (15, [("position", v)]), (16, [("position", v)]), (17, [("position", v)])]
theorem ok_law_by_named_position (T : All K mg) : FnOk PW w K mg base CX0 2 T.f_law_by_named_position T.d_law_by_named_position ["_law_odd"] (spEvs K (eCs T) es_by_named_position) := by
  refine T.law_by_named_position.F.ok sc_law_by_named_position (fun vs H Q E h => ?_) (fun cdv A outer s H vs Q E hr h => ?_)
  · obtain ⟨v, rfl, _⟩ := h
    rfl
  · obtain ⟨v, rfl, q⟩ := h
    refine ⟨_, pss_cons (ps_set (i := 1) sc_law_by_named_position.nd rfl (by first | exact Or.inl rfl | exact Or.inr rfl) (pe_lst (pa_cons (pe_ev1K T.er_InvalidRows (hr.mono (by decide)) T.g_InvalidRows (pk_cons (pv 0) pk_nil)) (pa_cons (pe_ev1K T.er_InvalidKinds (hr.mono (by decide)) T.g_InvalidKinds (pk_cons (pv 0) pk_nil)) (pa_cons (pe_ev1K T.er_InvalidProducts (hr.mono (by decide)) T.g_InvalidProducts (pk_cons (pv 0) pk_nil)) pa_nil)))))
      (pss_one (ps_ret (pe_op op_cat (pv 1) (pe_lst (pa_cons (pe_ev1K T.er_InvalidTexts (hr.mono (by decide)) T.g_InvalidTexts (pk_cons (pv 0) pk_nil)) (pa_cons (pe_ev1K T.er_InvalidPlaces (hr.mono (by decide)) T.g_InvalidPlaces (pk_cons (pv 0) pk_nil)) (pa_cons (pe_ev1K T.er_InvalidLevels (hr.mono (by decide)) T.g_InvalidLevels (pk_cons (pv 0) pk_nil)) pa_nil))))))), ?_⟩
    try dsimp only [cxOf]
    obtain ⟨H0, hH0⟩ : ∃ H0, H0 = H := ⟨H, rfl⟩
    rw [← hH0] at q ⊢
    clear hH0
    refine ⟨_, rfl, _, rfl, fun a1 d1 na1 nd1 hd1 => ?_⟩
    have t1 : Same H0 (upd (upd H0 d1 (.xd [("position", v)])) a1 (evO T.C_InvalidRows a1 (some d1))) := same_up (same_upd nd1) na1
    have e1 : EvAt K (eCs T) (upd (upd H0 d1 (.xd [("position", v)])) a1 (evO T.C_InvalidRows a1 (some d1))) (.ref a1) 12 [("position", v)] := EvAt.mk rfl hd1 (fun p hp => by rw [List.mem_singleton.mp hp]; exact T.nf_InvalidRows_position)
    generalize upd (upd H0 d1 (.xd [("position", v)])) a1 (evO T.C_InvalidRows a1 (some d1)) = H1 at *
    refine ⟨_, rfl, _, rfl, fun a2 d2 na2 nd2 hd2 => ?_⟩
    have t2 : Same H1 (upd (upd H1 d2 (.xd [("position", v)])) a2 (evO T.C_InvalidKinds a2 (some d2))) := same_up (same_upd nd2) na2
    have e2 : EvAt K (eCs T) (upd (upd H1 d2 (.xd [("position", v)])) a2 (evO T.C_InvalidKinds a2 (some d2))) (.ref a2) 13 [("position", v)] := EvAt.mk rfl hd2 (fun p hp => by rw [List.mem_singleton.mp hp]; exact T.nf_InvalidKinds_position)
    generalize upd (upd H1 d2 (.xd [("position", v)])) a2 (evO T.C_InvalidKinds a2 (some d2)) = H2 at *
    refine ⟨_, rfl, _, rfl, fun a3 d3 na3 nd3 hd3 => ?_⟩
    have t3 : Same H2 (upd (upd H2 d3 (.xd [("position", v)])) a3 (evO T.C_InvalidProducts a3 (some d3))) := same_up (same_upd nd3) na3
    have e3 : EvAt K (eCs T) (upd (upd H2 d3 (.xd [("position", v)])) a3 (evO T.C_InvalidProducts a3 (some d3))) (.ref a3) 14 [("position", v)] := EvAt.mk rfl hd3 (fun p hp => by rw [List.mem_singleton.mp hp]; exact T.nf_InvalidProducts_position)
    generalize upd (upd H2 d3 (.xd [("position", v)])) a3 (evO T.C_InvalidProducts a3 (some d3)) = H3 at *
    have Ea : Evs K (eCs T) H3 [.ref a1, .ref a2, .ref a3] [(12, [("position", v)]), (13, [("position", v)]), (14, [("position", v)])] := .cons ((e1.same t2).same t3) (.cons (e2.same t3) (.cons e3 .nil))
    have Sa := ((t1.trans t2).trans t3)
    refine ⟨by show 3 ≤ sizeLine; decide, fun Fa nFa => ?_⟩
    have sFa := same_upd (o := .lst [.ref a1, .ref a2, .ref a3]) nFa
    have hFa := upd_same (H := H3) (a := Fa) (o := .lst [.ref a1, .ref a2, .ref a3])
    have Ea := Evs.same Ea sFa
    have Sa := Sa.trans sFa
    generalize upd H3 Fa (.lst [.ref a1, .ref a2, .ref a3]) = H4 at *
    clear t1 e1 t2 e2 t3 e3 sFa nFa
    try dsimp only [gName]
    refine ⟨_, rfl, ?_⟩
    refine ⟨_, rfl, _, rfl, fun a4 d4 na4 nd4 hd4 => ?_⟩
    have t4 : Same H4 (upd (upd H4 d4 (.xd [("position", v)])) a4 (evO T.C_InvalidTexts a4 (some d4))) := same_up (same_upd nd4) na4
    have e4 : EvAt K (eCs T) (upd (upd H4 d4 (.xd [("position", v)])) a4 (evO T.C_InvalidTexts a4 (some d4))) (.ref a4) 15 [("position", v)] := EvAt.mk rfl hd4 (fun p hp => by rw [List.mem_singleton.mp hp]; exact T.nf_InvalidTexts_position)
    generalize upd (upd H4 d4 (.xd [("position", v)])) a4 (evO T.C_InvalidTexts a4 (some d4)) = H5 at *
    refine ⟨_, rfl, _, rfl, fun a5 d5 na5 nd5 hd5 => ?_⟩
    have t5 : Same H5 (upd (upd H5 d5 (.xd [("position", v)])) a5 (evO T.C_InvalidPlaces a5 (some d5))) := same_up (same_upd nd5) na5
    have e5 : EvAt K (eCs T) (upd (upd H5 d5 (.xd [("position", v)])) a5 (evO T.C_InvalidPlaces a5 (some d5))) (.ref a5) 16 [("position", v)] := EvAt.mk rfl hd5 (fun p hp => by rw [List.mem_singleton.mp hp]; exact T.nf_InvalidPlaces_position)
    generalize upd (upd H5 d5 (.xd [("position", v)])) a5 (evO T.C_InvalidPlaces a5 (some d5)) = H6 at *
    refine ⟨_, rfl, _, rfl, fun a6 d6 na6 nd6 hd6 => ?_⟩
    have t6 : Same H6 (upd (upd H6 d6 (.xd [("position", v)])) a6 (evO T.C_InvalidLevels a6 (some d6))) := same_up (same_upd nd6) na6
    have e6 : EvAt K (eCs T) (upd (upd H6 d6 (.xd [("position", v)])) a6 (evO T.C_InvalidLevels a6 (some d6))) (.ref a6) 17 [("position", v)] := EvAt.mk rfl hd6 (fun p hp => by rw [List.mem_singleton.mp hp]; exact T.nf_InvalidLevels_position)
    generalize upd (upd H6 d6 (.xd [("position", v)])) a6 (evO T.C_InvalidLevels a6 (some d6)) = H7 at *
    have Eb : Evs K (eCs T) H7 [.ref a4, .ref a5, .ref a6] [(15, [("position", v)]), (16, [("position", v)]), (17, [("position", v)])] := .cons ((e4.same t5).same t6) (.cons (e5.same t6) (.cons e6 .nil))
    have Sb := ((t4.trans t5).trans t6)
    refine ⟨by show 3 ≤ sizeLine; decide, fun Fb nFb => ?_⟩
    have sFb := same_upd (o := .lst [.ref a4, .ref a5, .ref a6]) nFb
    have hFb := upd_same (H := H7) (a := Fb) (o := .lst [.ref a4, .ref a5, .ref a6])
    have Eb := Evs.same Eb sFb
    have Sb := Sb.trans sFb
    generalize upd H7 Fb (.lst [.ref a4, .ref a5, .ref a6]) = H8 at *
    clear t4 e4 t5 e5 t6 e6 sFb nFb
    refine ⟨Fa, Fb, _, _, rfl, rfl, Sb _ _ hFa, hFb, by show 6 ≤ sizeLine; decide, fun Fc nFc => ?_⟩
    have Ec : Evs K (eCs T) H8 ([.ref a1, .ref a2, .ref a3] ++ [.ref a4, .ref a5, .ref a6]) _ := pr_app (Evs.same Ea Sb) Eb
    have Sc := Sa.trans Sb
    exact q _ Fc _ (Sc.trans (same_upd nFc)) (Sc.free nFc) upd_same (Evs.same Ec (same_upd nFc))
/-! ### _law_of_states -/
def es_of_states (v : V) : List (Nat × List (Str × V)) := [(19, [("other", v), ("one", v)]), (20, [("place", v)]), (21, [("value", v)]), (22, []), (23, [("position", v)])]
theorem ok_law_of_states (T : All K mg) : FnOk PW w K mg base CX0 2 T.f_law_of_states T.d_law_of_states ["_law_odd"] (spEvs K (eCs T) es_of_states) := by
  refine T.law_of_states.F.ok sc_law_of_states (fun vs H Q E h => ?_) (fun cdv A outer s H vs Q E hr h => ?_)
  · obtain ⟨v, rfl, _⟩ := h
    rfl
  · obtain ⟨v, rfl, q⟩ := h
    refine ⟨_, pss_one (ps_ret (pe_lst (pa_cons (pe_ev2 T.er_OtherLetters (hr.mono (by decide)) T.g_OtherLetters (pa_cons (pv 0) (pa_cons (pv 0) pa_nil))) (pa_cons (pe_ev1 T.er_NotComeTo (hr.mono (by decide)) T.g_NotComeTo (pa_cons (pv 0) pa_nil)) (pa_cons (pe_ev1 T.er_NeverHeard (hr.mono (by decide)) T.g_NeverHeard (pa_cons (pv 0) pa_nil)) (pa_cons (pe_ev0 T.er_NothingToUndo (hr.mono (by decide)) T.g_NothingToUndo) (pa_cons (pe_ev1 T.er_CommandFailed (hr.mono (by decide)) T.g_CommandFailed (pa_cons (pv 0) pa_nil)) pa_nil))))))), ?_⟩
    try dsimp only [cxOf]
    obtain ⟨H0, hH0⟩ : ∃ H0, H0 = H := ⟨H, rfl⟩
    rw [← hH0] at q ⊢
    clear hH0
    refine ⟨_, rfl, _, rfl, _, _, rfl, fun a1 d1 na1 nd1 hd1 => ?_⟩
    have t1 : Same H0 (upd (upd H0 d1 (.xd [("other", v), ("one", v)])) a1 (evO T.C_OtherLetters a1 (some d1))) := same_up (same_upd nd1) na1
    have e1 : EvAt K (eCs T) (upd (upd H0 d1 (.xd [("other", v), ("one", v)])) a1 (evO T.C_OtherLetters a1 (some d1))) (.ref a1) 19 [("other", v), ("one", v)] := EvAt.mk rfl hd1 (fun p hp => by
      rcases List.mem_cons.mp hp with rfl | hp
      · exact T.nf_OtherLetters_other
      · rw [List.mem_singleton.mp hp]; exact T.nf_OtherLetters_one)
    generalize upd (upd H0 d1 (.xd [("other", v), ("one", v)])) a1 (evO T.C_OtherLetters a1 (some d1)) = H1 at *
    refine ⟨_, rfl, _, rfl, fun a2 d2 na2 nd2 hd2 => ?_⟩
    have t2 : Same H1 (upd (upd H1 d2 (.xd [("place", v)])) a2 (evO T.C_NotComeTo a2 (some d2))) := same_up (same_upd nd2) na2
    have e2 : EvAt K (eCs T) (upd (upd H1 d2 (.xd [("place", v)])) a2 (evO T.C_NotComeTo a2 (some d2))) (.ref a2) 20 [("place", v)] := EvAt.mk rfl hd2 (fun p hp => by rw [List.mem_singleton.mp hp]; exact T.nf_NotComeTo_place)
    generalize upd (upd H1 d2 (.xd [("place", v)])) a2 (evO T.C_NotComeTo a2 (some d2)) = H2 at *
    refine ⟨_, rfl, _, rfl, fun a3 d3 na3 nd3 hd3 => ?_⟩
    have t3 : Same H2 (upd (upd H2 d3 (.xd [("value", v)])) a3 (evO T.C_NeverHeard a3 (some d3))) := same_up (same_upd nd3) na3
    have e3 : EvAt K (eCs T) (upd (upd H2 d3 (.xd [("value", v)])) a3 (evO T.C_NeverHeard a3 (some d3))) (.ref a3) 21 [("value", v)] := EvAt.mk rfl hd3 (fun p hp => by rw [List.mem_singleton.mp hp]; exact T.nf_NeverHeard_value)
    generalize upd (upd H2 d3 (.xd [("value", v)])) a3 (evO T.C_NeverHeard a3 (some d3)) = H3 at *
    refine fun a4 na4 => ?_
    have t4 : Same H3 (upd H3 a4 (evO T.C_NothingToUndo a4 none)) := same_upd na4
    have e4 : EvAt K (eCs T) (upd H3 a4 (evO T.C_NothingToUndo a4 none)) (.ref a4) 22 [] := EvAt.mk0 rfl
    generalize upd H3 a4 (evO T.C_NothingToUndo a4 none) = H4 at *
    refine ⟨_, rfl, _, rfl, fun a5 d5 na5 nd5 hd5 => ?_⟩
    have t5 : Same H4 (upd (upd H4 d5 (.xd [("position", v)])) a5 (evO T.C_CommandFailed a5 (some d5))) := same_up (same_upd nd5) na5
    have e5 : EvAt K (eCs T) (upd (upd H4 d5 (.xd [("position", v)])) a5 (evO T.C_CommandFailed a5 (some d5))) (.ref a5) 23 [("position", v)] := EvAt.mk rfl hd5 (fun p hp => by rw [List.mem_singleton.mp hp]; exact T.nf_CommandFailed_position)
    generalize upd (upd H4 d5 (.xd [("position", v)])) a5 (evO T.C_CommandFailed a5 (some d5)) = H5 at *
    have Ea : Evs K (eCs T) H5 [.ref a1, .ref a2, .ref a3, .ref a4, .ref a5] [(19, [("other", v), ("one", v)]), (20, [("place", v)]), (21, [("value", v)]), (22, []), (23, [("position", v)])] := .cons ((((e1.same t2).same t3).same t4).same t5) (.cons (((e2.same t3).same t4).same t5) (.cons ((e3.same t4).same t5) (.cons (e4.same t5) (.cons e5 .nil))))
    have Sa := ((((t1.trans t2).trans t3).trans t4).trans t5)
    refine ⟨by show 5 ≤ sizeLine; decide, fun Fa nFa => ?_⟩
    have nFa0 := Sa.free nFa
    have sFa := same_upd (o := .lst [.ref a1, .ref a2, .ref a3, .ref a4, .ref a5]) nFa
    have hFa := upd_same (H := H5) (a := Fa) (o := .lst [.ref a1, .ref a2, .ref a3, .ref a4, .ref a5])
    have Ea := Evs.same Ea sFa
    have Sa := Sa.trans sFa
    generalize upd H5 Fa (.lst [.ref a1, .ref a2, .ref a3, .ref a4, .ref a5]) = H6 at *
    clear t1 e1 t2 e2 t3 e3 t4 e4 t5 e5 sFa
    exact q _ Fa _ Sa nFa0 hFa Ea
end
end Lw
namespace Lw
open PySem PySem.Spec PyProof.Rows L3
open L2 hiding del del_same del_ne
section
variable {w : World} {K : PySem.W.Frag} {mg : Str → Option Value} {base : Heap}
theorem n_of {T : All K mg} {i : Nat} {C : Addr} (h : (eCs T)[i]? = some C) : i < 25 := (List.getElem?_eq_some_iff.mp h).1
/-! ### _law_each -/
def es_each (v : V) : List (Nat × List (Str × V)) := es_by_value v ++ es_by_position v ++ ([(18, [("row", v)])] : List (Nat × List (Str × V))) ++ es_of_states v ++ ([(24, [("limit", v), ("what", v)])] : List (Nat × List (Str × V)))
theorem ok_law_each (T : All K mg) : FnOk PW w K mg base CX0 3 T.f_law_each T.d_law_each ["_law_odd"] (spEvs K (eCs T) es_each) := by
  refine T.law_each.F.ok sc_law_each (fun vs H Q E h => ?_) (fun cdv A outer s H vs Q E hr h => ?_)
  · obtain ⟨v, rfl, _⟩ := h
    rfl
  · obtain ⟨v, rfl, q⟩ := h
    refine ⟨_, pss_cons (ps_set (i := 1) sc_law_each.nd rfl (by first | exact Or.inl rfl | exact Or.inr rfl) (pe_op op_cat (pe_op op_cat (pe_call (ok_law_by_value T) (hr.mono (by decide)) (by rfl) T.law_by_value.g T.law_by_value.F.kp T.law_by_value.b .nil pass0 (pa_cons (pv 0) pa_nil)) (pe_call (ok_law_by_position T) (hr.mono (by decide)) (by rfl) T.law_by_position.g T.law_by_position.F.kp T.law_by_position.b .nil pass0 (pa_cons (pv 0) pa_nil))) (pe_lst (pa_cons (pe_ev1 T.er_InvalidRow (hr.mono (by decide)) T.g_InvalidRow (pa_cons (pv 0) pa_nil)) pa_nil))))
      (pss_one (ps_ret (pe_op op_cat (pe_op op_cat (pv 1) (pe_call (ok_law_of_states T) (hr.mono (by decide)) (by rfl) T.law_of_states.g T.law_of_states.F.kp T.law_of_states.b .nil pass0 (pa_cons (pv 0) pa_nil))) (pe_lst (pa_cons (pe_ev2 T.er_TooMany (hr.mono (by decide)) T.g_TooMany (pa_cons (pv 0) (pa_cons (pv 0) pa_nil))) pa_nil))))), ?_⟩
    try dsimp only [cxOf]
    refine ⟨_, rfl, v, rfl, fun H1 p1 x1 s1 n1 g1 e1 => ?_⟩
    refine ⟨_, rfl, v, rfl, fun H2 p2 x2 s2 n2 g2 e2 => ?_⟩
    have l1 : x1.length = 12 := pr_len e1
    have l2 : x2.length = 6 := pr_len e2
    refine ⟨p1, p2, _, _, rfl, rfl, s2 _ _ g1, g2, sz (by omega), fun p3 n3 => ?_⟩
    have e12 : Evs K (eCs T) H2 (x1 ++ x2) _ := pr_app (Evs.same e1 s2) e2
    have t3 := same_upd (o := .lst (x1 ++ x2)) n3
    have g3 := upd_same (H := H2) (a := p3) (o := .lst (x1 ++ x2))
    generalize upd H2 p3 (.lst (x1 ++ x2)) = H3 at *
    have e3 := Evs.same e12 t3
    have s03 := (s1.trans s2).trans t3
    clear e1 e2 e12 s1 s2 t3 g1 g2 n1 n2 n3
    refine ⟨_, rfl, _, rfl, fun a1 d1 na1 nd1 hd1 => ?_⟩
    have t4 : Same H3 (upd (upd H3 d1 (.xd [("row", v)])) a1 (evO T.C_InvalidRow a1 (some d1))) := same_up (same_upd nd1) na1
    have f4 : EvAt K (eCs T) (upd (upd H3 d1 (.xd [("row", v)])) a1 (evO T.C_InvalidRow a1 (some d1))) (.ref a1) 18 [("row", v)] := EvAt.mk rfl hd1 (fun p hp => by rw [List.mem_singleton.mp hp]; exact T.nf_InvalidRow_row)
    generalize upd (upd H3 d1 (.xd [("row", v)])) a1 (evO T.C_InvalidRow a1 (some d1)) = H4 at *
    refine ⟨by show 1 ≤ sizeLine; decide, fun p5 n5 => ?_⟩
    have t5 := same_upd (o := .lst [.ref a1]) n5
    have g5 := upd_same (H := H4) (a := p5) (o := .lst [.ref a1])
    generalize upd H4 p5 (.lst [.ref a1]) = H5 at *
    refine ⟨p3, p5, _, _, rfl, rfl, t5 _ _ (t4 _ _ g3), g5, sz (by rw [List.length_append, l1, l2]; show 12 + 6 + 1 ≤ _; omega), fun p6 n6 => ?_⟩
    have e6 : Evs K (eCs T) H5 (x1 ++ x2 ++ [.ref a1]) (es_by_value v ++ es_by_position v ++ ([(18, [("row", v)])] : List (Nat × List (Str × V)))) := pr_app (Evs.same e3 (t4.trans t5)) (.cons (f4.same t5) .nil)
    have t6 := same_upd (o := .lst (x1 ++ x2 ++ [.ref a1])) n6
    have g6 := upd_same (H := H5) (a := p6) (o := .lst (x1 ++ x2 ++ [.ref a1]))
    generalize upd H5 p6 (.lst (x1 ++ x2 ++ [.ref a1])) = H6 at *
    have e6 := Evs.same e6 t6
    have s06 := ((s03.trans t4).trans t5).trans t6
    clear e3 f4 s03 t4 t5 t6 g3 g5 n5 n6
    try dsimp only [gName]
    refine ⟨_, rfl, ?_⟩
    refine ⟨_, rfl, v, rfl, fun H7 p7 x7 s7 n7 g7 e7 => ?_⟩
    have l7 : x7.length = 5 := pr_len e7
    refine ⟨p6, p7, _, _, rfl, rfl, s7 _ _ g6, g7, sz (by rw [List.length_append, List.length_append, l1, l2, l7]; show 12 + 6 + 1 + 5 ≤ _; omega), fun p8 n8 => ?_⟩
    have e8 : Evs K (eCs T) H7 (x1 ++ x2 ++ [.ref a1] ++ x7) _ := pr_app (Evs.same e6 s7) e7
    have t8 := same_upd (o := .lst (x1 ++ x2 ++ [.ref a1] ++ x7)) n8
    have g8 := upd_same (H := H7) (a := p8) (o := .lst (x1 ++ x2 ++ [.ref a1] ++ x7))
    generalize upd H7 p8 (.lst (x1 ++ x2 ++ [.ref a1] ++ x7)) = H8 at *
    have e8 := Evs.same e8 t8
    have s08 := (s06.trans s7).trans t8
    clear e6 e7 s06 s7 t8 g6 g7 n7 n8
    refine ⟨_, rfl, _, rfl, _, _, rfl, fun a2 d2 na2 nd2 hd2 => ?_⟩
    have t9 : Same H8 (upd (upd H8 d2 (.xd [("limit", v), ("what", v)])) a2 (evO T.C_TooMany a2 (some d2))) := same_up (same_upd nd2) na2
    have f9 : EvAt K (eCs T) (upd (upd H8 d2 (.xd [("limit", v), ("what", v)])) a2 (evO T.C_TooMany a2 (some d2))) (.ref a2) 24 [("limit", v), ("what", v)] := EvAt.mk rfl hd2 (fun p hp => by
      rcases List.mem_cons.mp hp with rfl | hp
      · exact T.nf_TooMany_limit
      · rw [List.mem_singleton.mp hp]; exact T.nf_TooMany_what)
    generalize upd (upd H8 d2 (.xd [("limit", v), ("what", v)])) a2 (evO T.C_TooMany a2 (some d2)) = H9 at *
    refine ⟨by show 1 ≤ sizeLine; decide, fun pa na => ?_⟩
    have ta := same_upd (o := .lst [.ref a2]) na
    have ga := upd_same (H := H9) (a := pa) (o := .lst [.ref a2])
    generalize upd H9 pa (.lst [.ref a2]) = Ha at *
    refine ⟨p8, pa, _, _, rfl, rfl, ta _ _ (t9 _ _ g8), ga, sz (by rw [List.length_append, List.length_append, List.length_append, l1, l2, l7]; show 12 + 6 + 1 + 5 + 1 ≤ _; omega), fun pb nb => ?_⟩
    have eb : Evs K (eCs T) Ha (x1 ++ x2 ++ [.ref a1] ++ x7 ++ [.ref a2]) (es_each v) := pr_app (Evs.same e8 (t9.trans ta)) (.cons (f9.same ta) .nil)
    have s0a := (s08.trans t9).trans ta
    exact q _ pb _ (s0a.trans (same_upd nb)) (s0a.free nb) upd_same (Evs.same eb (same_upd nb))
/-! ### _law_marks -/
def mks (n m : Nat) : List V := (List.range m).map fun j => .bl (decide (n = j))
def spMarks (K : PySem.W.Frag) (Cs : List Addr) : Sp := fun vs H Q _ => ∃ (v : V) (n : Nat) (fs : List (Str × V)), vs = [v] ∧ EvAt K Cs H v n fs ∧ ∀ H' p, Same H H' → H p = none → H' p = some (.lst (mks n 25)) → Q (.ref p) H'
theorem ok_law_marks (T : All K mg) : FnOk PW w K mg base CX0 1 T.f_law_marks T.d_law_marks ["_law_e"] (spMarks K (eCs T)) := by
  refine T.law_marks.F.ok sc_law_marks (fun vs H Q E h => ?_) (fun cdv A outer s H vs Q E hr h => ?_)
  · obtain ⟨v, n, fs, rfl, _⟩ := h
    rfl
  · obtain ⟨v, n, fs, rfl, hv, q⟩ := h
    refine ⟨_, pss_cons (ps_set (i := 1) sc_law_marks.nd rfl (by first | exact Or.inl rfl | exact Or.inr rfl) (pe_lst (pa_cons (pe_callB call_isV (by rfl) T.b_isinstance boot_isinstance (pa_cons (pv 0) (pa_cons (pe_glob (v := .ref T.C_InvalidText) rfl T.g_InvalidText rfl) pa_nil))) (pa_cons (pe_callB call_isV (by rfl) T.b_isinstance boot_isinstance (pa_cons (pv 0) (pa_cons (pe_glob (v := .ref T.C_InvalidLetters) rfl T.g_InvalidLetters rfl) pa_nil))) (pa_cons (pe_callB call_isV (by rfl) T.b_isinstance boot_isinstance (pa_cons (pv 0) (pa_cons (pe_glob (v := .ref T.C_InvalidLetter) rfl T.g_InvalidLetter rfl) pa_nil))) pa_nil)))))
      (pss_cons (ps_set (i := 1) sc_law_marks.nd rfl (by first | exact Or.inl rfl | exact Or.inr rfl) (pe_op op_cat (pv 1) (pe_lst (pa_cons (pe_callB call_isV (by rfl) T.b_isinstance boot_isinstance (pa_cons (pv 0) (pa_cons (pe_glob (v := .ref T.C_InvalidNumber) rfl T.g_InvalidNumber rfl) pa_nil))) (pa_cons (pe_callB call_isV (by rfl) T.b_isinstance boot_isinstance (pa_cons (pv 0) (pa_cons (pe_glob (v := .ref T.C_InvalidPlace) rfl T.g_InvalidPlace rfl) pa_nil))) (pa_cons (pe_callB call_isV (by rfl) T.b_isinstance boot_isinstance (pa_cons (pv 0) (pa_cons (pe_glob (v := .ref T.C_InvalidMachine) rfl T.g_InvalidMachine rfl) pa_nil))) pa_nil))))))
      (pss_cons (ps_set (i := 1) sc_law_marks.nd rfl (by first | exact Or.inl rfl | exact Or.inr rfl) (pe_op op_cat (pv 1) (pe_lst (pa_cons (pe_callB call_isV (by rfl) T.b_isinstance boot_isinstance (pa_cons (pv 0) (pa_cons (pe_glob (v := .ref T.C_InvalidProduct) rfl T.g_InvalidProduct rfl) pa_nil))) (pa_cons (pe_callB call_isV (by rfl) T.b_isinstance boot_isinstance (pa_cons (pv 0) (pa_cons (pe_glob (v := .ref T.C_InvalidSum) rfl T.g_InvalidSum rfl) pa_nil))) (pa_cons (pe_callB call_isV (by rfl) T.b_isinstance boot_isinstance (pa_cons (pv 0) (pa_cons (pe_glob (v := .ref T.C_InvalidTest) rfl T.g_InvalidTest rfl) pa_nil))) pa_nil))))))
      (pss_cons (ps_set (i := 1) sc_law_marks.nd rfl (by first | exact Or.inl rfl | exact Or.inr rfl) (pe_op op_cat (pv 1) (pe_lst (pa_cons (pe_callB call_isV (by rfl) T.b_isinstance boot_isinstance (pa_cons (pv 0) (pa_cons (pe_glob (v := .ref T.C_InvalidLine) rfl T.g_InvalidLine rfl) pa_nil))) (pa_cons (pe_callB call_isV (by rfl) T.b_isinstance boot_isinstance (pa_cons (pv 0) (pa_cons (pe_glob (v := .ref T.C_InvalidClaim) rfl T.g_InvalidClaim rfl) pa_nil))) (pa_cons (pe_callB call_isV (by rfl) T.b_isinstance boot_isinstance (pa_cons (pv 0) (pa_cons (pe_glob (v := .ref T.C_InvalidCommand) rfl T.g_InvalidCommand rfl) pa_nil))) pa_nil))))))
      (pss_cons (ps_set (i := 1) sc_law_marks.nd rfl (by first | exact Or.inl rfl | exact Or.inr rfl) (pe_op op_cat (pv 1) (pe_lst (pa_cons (pe_callB call_isV (by rfl) T.b_isinstance boot_isinstance (pa_cons (pv 0) (pa_cons (pe_glob (v := .ref T.C_InvalidRows) rfl T.g_InvalidRows rfl) pa_nil))) (pa_cons (pe_callB call_isV (by rfl) T.b_isinstance boot_isinstance (pa_cons (pv 0) (pa_cons (pe_glob (v := .ref T.C_InvalidKinds) rfl T.g_InvalidKinds rfl) pa_nil))) (pa_cons (pe_callB call_isV (by rfl) T.b_isinstance boot_isinstance (pa_cons (pv 0) (pa_cons (pe_glob (v := .ref T.C_InvalidProducts) rfl T.g_InvalidProducts rfl) pa_nil))) pa_nil))))))
      (pss_cons (ps_set (i := 1) sc_law_marks.nd rfl (by first | exact Or.inl rfl | exact Or.inr rfl) (pe_op op_cat (pv 1) (pe_lst (pa_cons (pe_callB call_isV (by rfl) T.b_isinstance boot_isinstance (pa_cons (pv 0) (pa_cons (pe_glob (v := .ref T.C_InvalidTexts) rfl T.g_InvalidTexts rfl) pa_nil))) (pa_cons (pe_callB call_isV (by rfl) T.b_isinstance boot_isinstance (pa_cons (pv 0) (pa_cons (pe_glob (v := .ref T.C_InvalidPlaces) rfl T.g_InvalidPlaces rfl) pa_nil))) (pa_cons (pe_callB call_isV (by rfl) T.b_isinstance boot_isinstance (pa_cons (pv 0) (pa_cons (pe_glob (v := .ref T.C_InvalidLevels) rfl T.g_InvalidLevels rfl) pa_nil))) pa_nil))))))
      (pss_cons (ps_set (i := 1) sc_law_marks.nd rfl (by first | exact Or.inl rfl | exact Or.inr rfl) (pe_op op_cat (pv 1) (pe_lst (pa_cons (pe_callB call_isV (by rfl) T.b_isinstance boot_isinstance (pa_cons (pv 0) (pa_cons (pe_glob (v := .ref T.C_InvalidRow) rfl T.g_InvalidRow rfl) pa_nil))) (pa_cons (pe_callB call_isV (by rfl) T.b_isinstance boot_isinstance (pa_cons (pv 0) (pa_cons (pe_glob (v := .ref T.C_OtherLetters) rfl T.g_OtherLetters rfl) pa_nil))) (pa_cons (pe_callB call_isV (by rfl) T.b_isinstance boot_isinstance (pa_cons (pv 0) (pa_cons (pe_glob (v := .ref T.C_NotComeTo) rfl T.g_NotComeTo rfl) pa_nil))) pa_nil))))))
      (pss_cons (ps_set (i := 1) sc_law_marks.nd rfl (by first | exact Or.inl rfl | exact Or.inr rfl) (pe_op op_cat (pv 1) (pe_lst (pa_cons (pe_callB call_isV (by rfl) T.b_isinstance boot_isinstance (pa_cons (pv 0) (pa_cons (pe_glob (v := .ref T.C_NeverHeard) rfl T.g_NeverHeard rfl) pa_nil))) (pa_cons (pe_callB call_isV (by rfl) T.b_isinstance boot_isinstance (pa_cons (pv 0) (pa_cons (pe_glob (v := .ref T.C_NothingToUndo) rfl T.g_NothingToUndo rfl) pa_nil))) (pa_cons (pe_callB call_isV (by rfl) T.b_isinstance boot_isinstance (pa_cons (pv 0) (pa_cons (pe_glob (v := .ref T.C_CommandFailed) rfl T.g_CommandFailed rfl) pa_nil))) pa_nil))))))
      (pss_one (ps_ret (pe_op op_cat (pv 1) (pe_lst (pa_cons (pe_callB call_isV (by rfl) T.b_isinstance boot_isinstance (pa_cons (pv 0) (pa_cons (pe_glob (v := .ref T.C_TooMany) rfl T.g_TooMany rfl) pa_nil))) pa_nil)))))))))))), ?_⟩
    try dsimp only [cxOf]
    obtain ⟨a, C, d, rfl, hC, ha, hd, _⟩ := hv
    have hx := xc_at T hC
    have kt := fun {j : Nat} {D : Addr} (h : (eCs T)[j]? = some D) => kt_at T hC h
    have go : ∀ {G : Hp}, Same H G → G a = some (evO C a d) ∧ ∀ dd, d = some dd → ∃ fs, G dd = some (.xd fs) := fun {G} sm => ⟨sm _ _ ha, fun dd e => ⟨fs, sm _ _ (hd dd e)⟩⟩
    obtain ⟨H0, hH0⟩ : ∃ H0, H0 = H := ⟨H, rfl⟩
    have s0 : Same H H0 := by rw [hH0]; exact Same.refl H
    rw [← hH0]
    clear hH0
    refine ⟨_, rfl, a, C, d, _, .ref T.C_InvalidText, _, rfl, (go s0).1, (go s0).2, hx, (fun u ru => ru), kt (j := 0) rfl, ?_⟩
    refine ⟨_, rfl, a, C, d, _, .ref T.C_InvalidLetters, _, rfl, (go s0).1, (go s0).2, hx, (fun u ru => ru), kt (j := 1) rfl, ?_⟩
    refine ⟨_, rfl, a, C, d, _, .ref T.C_InvalidLetter, _, rfl, (go s0).1, (go s0).2, hx, (fun u ru => ru), kt (j := 2) rfl, ?_⟩
    refine ⟨by show 3 ≤ sizeLine; decide, fun L0 nL0 => ?_⟩
    have t0 := same_upd (o := .lst [.bl (decide (n = 0)), .bl (decide (n = 1)), .bl (decide (n = 2))]) nL0
    have g0 := upd_same (H := H0) (a := L0) (o := .lst [.bl (decide (n = 0)), .bl (decide (n = 1)), .bl (decide (n = 2))])
    have s1 := s0.trans t0
    generalize upd H0 L0 (.lst [.bl (decide (n = 0)), .bl (decide (n = 1)), .bl (decide (n = 2))]) = H1 at *
    try dsimp only [gName]
    refine ⟨_, rfl, ?_⟩
    refine ⟨_, rfl, a, C, d, _, .ref T.C_InvalidNumber, _, rfl, (go s1).1, (go s1).2, hx, (fun u ru => ru), kt (j := 3) rfl, ?_⟩
    refine ⟨_, rfl, a, C, d, _, .ref T.C_InvalidPlace, _, rfl, (go s1).1, (go s1).2, hx, (fun u ru => ru), kt (j := 4) rfl, ?_⟩
    refine ⟨_, rfl, a, C, d, _, .ref T.C_InvalidMachine, _, rfl, (go s1).1, (go s1).2, hx, (fun u ru => ru), kt (j := 5) rfl, ?_⟩
    refine ⟨by show 3 ≤ sizeLine; decide, fun L1 nL1 => ?_⟩
    have t1 := same_upd (o := .lst [.bl (decide (n = 3)), .bl (decide (n = 4)), .bl (decide (n = 5))]) nL1
    have g1 := upd_same (H := H1) (a := L1) (o := .lst [.bl (decide (n = 3)), .bl (decide (n = 4)), .bl (decide (n = 5))])
    have s2 := s1.trans t1
    generalize upd H1 L1 (.lst [.bl (decide (n = 3)), .bl (decide (n = 4)), .bl (decide (n = 5))]) = H2 at *
    refine ⟨L0, L1, _, _, rfl, rfl, t1 _ _ g0, g1, by show 6 ≤ sizeLine; decide, fun F1 nF1 => ?_⟩
    have u1 := same_upd (o := .lst (mks n 6)) nF1
    have k1 : upd H2 F1 (.lst (mks n 6)) F1 = some (.lst (mks n 6)) := upd_same
    have s3 := s2.trans u1
    generalize hu : upd H2 F1 (.lst (mks n 6)) = H3 at *
    rw [show (HO.lst ([.bl (decide (n = 0)), .bl (decide (n = 1)), .bl (decide (n = 2))] ++ [.bl (decide (n = 3)), .bl (decide (n = 4)), .bl (decide (n = 5))])) = HO.lst (mks n 6) from rfl, hu]
    clear hu
    try dsimp only [gName]
    refine ⟨_, rfl, ?_⟩
    refine ⟨_, rfl, a, C, d, _, .ref T.C_InvalidProduct, _, rfl, (go s3).1, (go s3).2, hx, (fun u ru => ru), kt (j := 6) rfl, ?_⟩
    refine ⟨_, rfl, a, C, d, _, .ref T.C_InvalidSum, _, rfl, (go s3).1, (go s3).2, hx, (fun u ru => ru), kt (j := 7) rfl, ?_⟩
    refine ⟨_, rfl, a, C, d, _, .ref T.C_InvalidTest, _, rfl, (go s3).1, (go s3).2, hx, (fun u ru => ru), kt (j := 8) rfl, ?_⟩
    refine ⟨by show 3 ≤ sizeLine; decide, fun L2 nL2 => ?_⟩
    have t2 := same_upd (o := .lst [.bl (decide (n = 6)), .bl (decide (n = 7)), .bl (decide (n = 8))]) nL2
    have g2 := upd_same (H := H3) (a := L2) (o := .lst [.bl (decide (n = 6)), .bl (decide (n = 7)), .bl (decide (n = 8))])
    have s4 := s3.trans t2
    generalize upd H3 L2 (.lst [.bl (decide (n = 6)), .bl (decide (n = 7)), .bl (decide (n = 8))]) = H4 at *
    refine ⟨F1, L2, _, _, rfl, rfl, t2 _ _ k1, g2, by show 9 ≤ sizeLine; decide, fun F2 nF2 => ?_⟩
    have u2 := same_upd (o := .lst (mks n 9)) nF2
    have k2 : upd H4 F2 (.lst (mks n 9)) F2 = some (.lst (mks n 9)) := upd_same
    have s5 := s4.trans u2
    generalize hu : upd H4 F2 (.lst (mks n 9)) = H5 at *
    rw [show (HO.lst ((mks n 6) ++ [.bl (decide (n = 6)), .bl (decide (n = 7)), .bl (decide (n = 8))])) = HO.lst (mks n 9) from rfl, hu]
    clear hu
    try dsimp only [gName]
    refine ⟨_, rfl, ?_⟩
    refine ⟨_, rfl, a, C, d, _, .ref T.C_InvalidLine, _, rfl, (go s5).1, (go s5).2, hx, (fun u ru => ru), kt (j := 9) rfl, ?_⟩
    refine ⟨_, rfl, a, C, d, _, .ref T.C_InvalidClaim, _, rfl, (go s5).1, (go s5).2, hx, (fun u ru => ru), kt (j := 10) rfl, ?_⟩
    refine ⟨_, rfl, a, C, d, _, .ref T.C_InvalidCommand, _, rfl, (go s5).1, (go s5).2, hx, (fun u ru => ru), kt (j := 11) rfl, ?_⟩
    refine ⟨by show 3 ≤ sizeLine; decide, fun L3 nL3 => ?_⟩
    have t3 := same_upd (o := .lst [.bl (decide (n = 9)), .bl (decide (n = 10)), .bl (decide (n = 11))]) nL3
    have g3 := upd_same (H := H5) (a := L3) (o := .lst [.bl (decide (n = 9)), .bl (decide (n = 10)), .bl (decide (n = 11))])
    have s6 := s5.trans t3
    generalize upd H5 L3 (.lst [.bl (decide (n = 9)), .bl (decide (n = 10)), .bl (decide (n = 11))]) = H6 at *
    refine ⟨F2, L3, _, _, rfl, rfl, t3 _ _ k2, g3, by show 12 ≤ sizeLine; decide, fun F3 nF3 => ?_⟩
    have u3 := same_upd (o := .lst (mks n 12)) nF3
    have k3 : upd H6 F3 (.lst (mks n 12)) F3 = some (.lst (mks n 12)) := upd_same
    have s7 := s6.trans u3
    generalize hu : upd H6 F3 (.lst (mks n 12)) = H7 at *
    rw [show (HO.lst ((mks n 9) ++ [.bl (decide (n = 9)), .bl (decide (n = 10)), .bl (decide (n = 11))])) = HO.lst (mks n 12) from rfl, hu]
    clear hu
    try dsimp only [gName]
    refine ⟨_, rfl, ?_⟩
    refine ⟨_, rfl, a, C, d, _, .ref T.C_InvalidRows, _, rfl, (go s7).1, (go s7).2, hx, (fun u ru => ru), kt (j := 12) rfl, ?_⟩
    refine ⟨_, rfl, a, C, d, _, .ref T.C_InvalidKinds, _, rfl, (go s7).1, (go s7).2, hx, (fun u ru => ru), kt (j := 13) rfl, ?_⟩
    refine ⟨_, rfl, a, C, d, _, .ref T.C_InvalidProducts, _, rfl, (go s7).1, (go s7).2, hx, (fun u ru => ru), kt (j := 14) rfl, ?_⟩
    refine ⟨by show 3 ≤ sizeLine; decide, fun L4 nL4 => ?_⟩
    have t4 := same_upd (o := .lst [.bl (decide (n = 12)), .bl (decide (n = 13)), .bl (decide (n = 14))]) nL4
    have g4 := upd_same (H := H7) (a := L4) (o := .lst [.bl (decide (n = 12)), .bl (decide (n = 13)), .bl (decide (n = 14))])
    have s8 := s7.trans t4
    generalize upd H7 L4 (.lst [.bl (decide (n = 12)), .bl (decide (n = 13)), .bl (decide (n = 14))]) = H8 at *
    refine ⟨F3, L4, _, _, rfl, rfl, t4 _ _ k3, g4, by show 15 ≤ sizeLine; decide, fun F4 nF4 => ?_⟩
    have u4 := same_upd (o := .lst (mks n 15)) nF4
    have k4 : upd H8 F4 (.lst (mks n 15)) F4 = some (.lst (mks n 15)) := upd_same
    have s9 := s8.trans u4
    generalize hu : upd H8 F4 (.lst (mks n 15)) = H9 at *
    rw [show (HO.lst ((mks n 12) ++ [.bl (decide (n = 12)), .bl (decide (n = 13)), .bl (decide (n = 14))])) = HO.lst (mks n 15) from rfl, hu]
    clear hu
    try dsimp only [gName]
    refine ⟨_, rfl, ?_⟩
    refine ⟨_, rfl, a, C, d, _, .ref T.C_InvalidTexts, _, rfl, (go s9).1, (go s9).2, hx, (fun u ru => ru), kt (j := 15) rfl, ?_⟩
    refine ⟨_, rfl, a, C, d, _, .ref T.C_InvalidPlaces, _, rfl, (go s9).1, (go s9).2, hx, (fun u ru => ru), kt (j := 16) rfl, ?_⟩
    refine ⟨_, rfl, a, C, d, _, .ref T.C_InvalidLevels, _, rfl, (go s9).1, (go s9).2, hx, (fun u ru => ru), kt (j := 17) rfl, ?_⟩
    refine ⟨by show 3 ≤ sizeLine; decide, fun L5 nL5 => ?_⟩
    have t5 := same_upd (o := .lst [.bl (decide (n = 15)), .bl (decide (n = 16)), .bl (decide (n = 17))]) nL5
    have g5 := upd_same (H := H9) (a := L5) (o := .lst [.bl (decide (n = 15)), .bl (decide (n = 16)), .bl (decide (n = 17))])
    have s10 := s9.trans t5
    generalize upd H9 L5 (.lst [.bl (decide (n = 15)), .bl (decide (n = 16)), .bl (decide (n = 17))]) = H10 at *
    refine ⟨F4, L5, _, _, rfl, rfl, t5 _ _ k4, g5, by show 18 ≤ sizeLine; decide, fun F5 nF5 => ?_⟩
    have u5 := same_upd (o := .lst (mks n 18)) nF5
    have k5 : upd H10 F5 (.lst (mks n 18)) F5 = some (.lst (mks n 18)) := upd_same
    have s11 := s10.trans u5
    generalize hu : upd H10 F5 (.lst (mks n 18)) = H11 at *
    rw [show (HO.lst ((mks n 15) ++ [.bl (decide (n = 15)), .bl (decide (n = 16)), .bl (decide (n = 17))])) = HO.lst (mks n 18) from rfl, hu]
    clear hu
    try dsimp only [gName]
    refine ⟨_, rfl, ?_⟩
    refine ⟨_, rfl, a, C, d, _, .ref T.C_InvalidRow, _, rfl, (go s11).1, (go s11).2, hx, (fun u ru => ru), kt (j := 18) rfl, ?_⟩
    refine ⟨_, rfl, a, C, d, _, .ref T.C_OtherLetters, _, rfl, (go s11).1, (go s11).2, hx, (fun u ru => ru), kt (j := 19) rfl, ?_⟩
    refine ⟨_, rfl, a, C, d, _, .ref T.C_NotComeTo, _, rfl, (go s11).1, (go s11).2, hx, (fun u ru => ru), kt (j := 20) rfl, ?_⟩
    refine ⟨by show 3 ≤ sizeLine; decide, fun L6 nL6 => ?_⟩
    have t6 := same_upd (o := .lst [.bl (decide (n = 18)), .bl (decide (n = 19)), .bl (decide (n = 20))]) nL6
    have g6 := upd_same (H := H11) (a := L6) (o := .lst [.bl (decide (n = 18)), .bl (decide (n = 19)), .bl (decide (n = 20))])
    have s12 := s11.trans t6
    generalize upd H11 L6 (.lst [.bl (decide (n = 18)), .bl (decide (n = 19)), .bl (decide (n = 20))]) = H12 at *
    refine ⟨F5, L6, _, _, rfl, rfl, t6 _ _ k5, g6, by show 21 ≤ sizeLine; decide, fun F6 nF6 => ?_⟩
    have u6 := same_upd (o := .lst (mks n 21)) nF6
    have k6 : upd H12 F6 (.lst (mks n 21)) F6 = some (.lst (mks n 21)) := upd_same
    have s13 := s12.trans u6
    generalize hu : upd H12 F6 (.lst (mks n 21)) = H13 at *
    rw [show (HO.lst ((mks n 18) ++ [.bl (decide (n = 18)), .bl (decide (n = 19)), .bl (decide (n = 20))])) = HO.lst (mks n 21) from rfl, hu]
    clear hu
    try dsimp only [gName]
    refine ⟨_, rfl, ?_⟩
    refine ⟨_, rfl, a, C, d, _, .ref T.C_NeverHeard, _, rfl, (go s13).1, (go s13).2, hx, (fun u ru => ru), kt (j := 21) rfl, ?_⟩
    refine ⟨_, rfl, a, C, d, _, .ref T.C_NothingToUndo, _, rfl, (go s13).1, (go s13).2, hx, (fun u ru => ru), kt (j := 22) rfl, ?_⟩
    refine ⟨_, rfl, a, C, d, _, .ref T.C_CommandFailed, _, rfl, (go s13).1, (go s13).2, hx, (fun u ru => ru), kt (j := 23) rfl, ?_⟩
    refine ⟨by show 3 ≤ sizeLine; decide, fun L7 nL7 => ?_⟩
    have t7 := same_upd (o := .lst [.bl (decide (n = 21)), .bl (decide (n = 22)), .bl (decide (n = 23))]) nL7
    have g7 := upd_same (H := H13) (a := L7) (o := .lst [.bl (decide (n = 21)), .bl (decide (n = 22)), .bl (decide (n = 23))])
    have s14 := s13.trans t7
    generalize upd H13 L7 (.lst [.bl (decide (n = 21)), .bl (decide (n = 22)), .bl (decide (n = 23))]) = H14 at *
    refine ⟨F6, L7, _, _, rfl, rfl, t7 _ _ k6, g7, by show 24 ≤ sizeLine; decide, fun F7 nF7 => ?_⟩
    have u7 := same_upd (o := .lst (mks n 24)) nF7
    have k7 : upd H14 F7 (.lst (mks n 24)) F7 = some (.lst (mks n 24)) := upd_same
    have s15 := s14.trans u7
    generalize hu : upd H14 F7 (.lst (mks n 24)) = H15 at *
    rw [show (HO.lst ((mks n 21) ++ [.bl (decide (n = 21)), .bl (decide (n = 22)), .bl (decide (n = 23))])) = HO.lst (mks n 24) from rfl, hu]
    clear hu
    try dsimp only [gName]
    refine ⟨_, rfl, ?_⟩
    refine ⟨_, rfl, a, C, d, _, .ref T.C_TooMany, _, rfl, (go s15).1, (go s15).2, hx, (fun u ru => ru), kt (j := 24) rfl, ?_⟩
    refine ⟨by show 1 ≤ sizeLine; decide, fun L8 nL8 => ?_⟩
    have t8 := same_upd (o := .lst [.bl (decide (n = 24))]) nL8
    have g8 := upd_same (H := H15) (a := L8) (o := .lst [.bl (decide (n = 24))])
    have s16 := s15.trans t8
    generalize upd H15 L8 (.lst [.bl (decide (n = 24))]) = H16 at *
    refine ⟨F7, L8, _, _, rfl, rfl, t8 _ _ k7, g8, by show 25 ≤ sizeLine; decide, fun F8 nF8 => ?_⟩
    exact q _ F8 (s16.trans (same_upd nF8)) (s16.free nF8) upd_same
/-! ### _law_each_right -/
theorem each_at (v : V) {i : Nat} {e : Nat × List (Str × V)} (h : (es_each v)[i]? = some e) : e.1 = i := by
  have h1 : ((es_each v).map (·.1))[i]? = some e.1 := by rw [List.getElem?_map, h]; rfl
  have h2 : (es_each v).map (·.1) = List.range 25 := rfl
  rw [h2, List.getElem?_range] at h1
  · exact (Option.some.inj h1).symm
  · have := (List.getElem?_eq_some_iff.mp h1).1
    rw [List.length_range] at this
    exact this
end
end Lw
namespace Lw
open PySem PySem.Spec PyProof.Rows L3
open L2 hiding del del_same del_ne
section
variable {w : World} {K : PySem.W.Frag} {mg : Str → Option Value} {base : Heap}
theorem dpAll_bl {H : Hp} : ∀ l : List Bool, DpAll K H (l.map V.bl) (dB l)
  | [] => .nil
  | b :: l => .cons (.bl b) (dpAll_bl l)
theorem dpL_bl {H : Hp} {p : Addr} {l : List Bool} (h : H p = some (.lst (l.map V.bl))) : Dp K H (.ref p) (.list (dB l)) := .lst (.inl (.inl h)) (dpAll_bl l)
theorem eqvL_bl (l m : List Bool) : PyData.eqv (.list (dB l)) (.list (dB m)) = decide (l = m) := by show PyData.eqvAll _ _ = _; exact eqv_dB l m
theorem shL_bl {l : List Bool} (h : l.length ≤ 100) : SeqAt.shaped (.list (dB l)) = true := (Wt.bools h).shaped (by decide)
def mkB (n m : Nat) : List Bool := (List.range m).map fun j => decide (n = j)
theorem mks_eq (n m : Nat) : mks n m = (mkB n m).map V.bl := by unfold mks mkB; rw [List.map_map]; rfl
/-! ### _law_each_right -/
def spEachRight : Sp := fun vs H Q _ => ∃ v : V, vs = [v] ∧ ∀ H', Same H H' → Q (.bl true) H'
theorem ok_law_each_right (T : All K mg) : FnOk PW w K mg base CX0 4 T.f_law_each_right T.d_law_each_right ["_law_odd"] spEachRight := by
  refine T.law_each_right.F.ok sc_law_each_right (fun vs H Q E h => ?_) (fun cdv A outer s H vs Q E hr h => ?_)
  · obtain ⟨v, rfl, _⟩ := h
    rfl
  · obtain ⟨v, rfl, q⟩ := h
    refine ⟨_, pss_cons (ps_set (i := 1) sc_law_each_right.nd rfl (by first | exact Or.inl rfl | exact Or.inr rfl) (pe_call (ok_law_each T) (hr.mono (by decide)) (by rfl) T.law_each.g T.law_each.F.kp T.law_each.b .nil pass0 (pa_cons (pv 0) pa_nil)))
      (pss_cons (ps_for PassesOwn.never rfl (pi_enumS rfl T.b_enumerate (pa_cons (pv 1) pa_nil)) (pg_tup rfl (pgs_cons (pg_name (i := 2) sc_law_each_right.nd rfl (by first | exact Or.inl rfl | exact Or.inr rfl)) (pgs_cons (pg_name (i := 3) sc_law_each_right.nd rfl (by first | exact Or.inl rfl | exact Or.inr rfl)) pgs_nil)))
        (pss_one (ps_if (pt_cmpR (op_neD (u64 hr)) (pe_call (ok_law_marks T) (hr.mono (by decide)) (by rfl) T.law_marks.g T.law_marks.F.kp T.law_marks.b .nil pass0 (pa_cons (pv 3) pa_nil)) (pe_lc (own := [("_law_k", 4)]) (g := gName 4) (tt := tYes) rfl sc_law_each_right.nd (pi_range1 rfl T.b_range (pa_cons pe_int pa_nil))
          (blkOk_by (own := [("_law_k", 4)]) (N := ["_law_odd", "_law_some", "_law_at", "_law_e", "_law_k"]) (sc := defScope s_law_each_right) (by decide +kernel))
          (fun _ _ _ _ _ => pg_name (i := 4) sc_law_each_right.nd rfl (by first | exact Or.inl rfl | exact Or.inr rfl)) (fun _ _ _ _ _ => pts_nil)
          (fun _ _ _ _ _ => (pe_cmpR op_eq (pv 4) (pv 2) (by rfl)))) (nomark _)) (pss_one ps_never) pss_nil)))
      (pss_one (ps_ret (pe_cmpR op_eq (pe_callB call_len_seq (by rfl) T.b_len PySem.boot_len (pa_cons (pv 1) pa_nil)) pe_int (by rfl))))), ?_⟩
    try dsimp only [cxOf]
    refine ⟨_, rfl, v, rfl, fun H1 p1 xs s1 n1 g1 e1 => ?_⟩
    have l1 : xs.length = 25 := pr_len e1
    refine ⟨_, rfl, .L p1, xs, rfl, .inl (.inl g1), for_it (walk_enumS (y := .L p1)) (fun i σ H' => ∃ s2 s3, σ = [some v, some (.ref p1), s2, s3, none] ∧ Same H1 H') ⟨none, none, rfl, Same.refl H1⟩ (fun i σ H' _ p => by obtain ⟨_, _, _, sm⟩ := p; exact .inl (.inl (sm _ _ g1))) (fun i x σ H3 H4 hi p y => ?_) (fun σ H3 p => ?_)⟩
    · obtain ⟨s2, s3, rfl, sm⟩ := p
      obtain ⟨Tp, x1, x2, rfl, nT, rfl, ea, eb⟩ := y
      cases ea
      obtain ⟨e, he, hev⟩ := pr_get e1 (show xs[i]? = some x2 from eb)
      have hei := each_at v he
      have hi25 : i < 25 := by rw [← l1]; exact hi
      have sm2 := same_up (o := .tup [.int (i : Nat), x2]) sm (sm.free nT)
      have gT := upd_same (H := H3) (a := Tp) (o := .tup [.int (i : Nat), x2])
      generalize upd H3 Tp (.tup [.int (i : Nat), x2]) = H4 at *
      refine ⟨Tp, _, rfl, .inl (.inl gT), rfl, _, _, rfl, _, _, rfl, rfl, ?_⟩
      refine ⟨_, rfl, x2, e.1, e.2, rfl, hev.same sm2, fun H5 D5 s5 n5 g5 => ?_⟩
      refine ⟨25, rfl, by decide, by decide, fun D nD => ?_⟩
      have sm5 := sm2.trans s5
      refine lc_gen walk_range (Same H5) (fun j acc => acc = mks i j) (sz (by decide)) (fun j acc e => by rw [e]; unfold mks; rw [List.length_map, List.length_range]; exact Nat.le_refl _) rfl (same_upd nD) (fun _ _ h => same_up h nD) (fun _ _ => trivial) (fun j x Ha Hb acc C N hj r hD ha y c nn => ?_) (fun Ha ys r hD ha => ?_)
      · obtain ⟨rfl, rfl⟩ := y
        refine ⟨rfl, yes_te ⟨_, rfl, _, rfl, rfl, ?_⟩⟩
        refine c _ _ r hD ?_
        rw [ha]
        unfold mks
        rw [List.range_succ, List.map_append]
        have e : decide (V.int ((0 : Int) + (j : Nat)) = V.int (i : Int)) = decide (i = j) := by
          refine decide_eq_decide.mpr ⟨fun z => ?_, fun z => ?_⟩
          · injection z with z; omega
          · rw [z, Int.zero_add]
        simp only [List.map_cons, List.map_nil]
        rw [← e]
      · rw [ha] at hD
        rw [hei] at g5
        rw [mks_eq] at g5 hD
        refine ⟨.list (dB (mkB i 25)), .list (dB (mkB i 25)), dpL_bl (r _ _ g5), dpL_bl hD, shL_bl (by unfold mkB; simp), shL_bl (by unfold mkB; simp), _, rfl, ite_f ?_ ?_⟩
        · rw [eqvL_bl, decide_eq_true rfl]
          rfl
        · exact ⟨_, _, rfl, sm5.trans r⟩
    · obtain ⟨s2, s3, rfl, sm⟩ := p
      refine ⟨_, rfl, p1, xs, rfl, .inl (.inl (.inl (sm _ _ g1))), ?_⟩
      have key : ∀ b : Bool, b = true → Q (.bl b) H3 := fun b hb => by rw [hb]; exact q _ (s1.trans sm)
      refine ⟨rfl, key _ ?_⟩
      rw [l1]
      rfl
end
end Lw
namespace Lw
open PySem PySem.Spec PyProof.Rows L3
open L2 hiding del del_same del_ne
section
variable {w : World} {K : PySem.W.Frag} {mg : Str → Option Value} {base : Heap}
/-! ### _law_thrown -/
/-- what is thrown in each way -/
def thC (T : All K mg) : List Addr := [T.C_InvalidRows, T.C_InvalidRow, T.C_InvalidLetters, T.C_InvalidLetter, T.C_InvalidTexts, T.C_NothingToUndo, T.C_NeverHeard, T.C_TooMany]
def thF (v : V) : List (Str × List (Str × V)) := [("position", [("position", v)]), ("row", [("row", v)]), ("value", [("value", v)]), ("value", [("value", v)]), ("position", [("position", v)])]
/-- an error in the air: its class and its fields -/
def Thr (T : All K mg) (n : Nat) (v : V) (H : Hp) (C : Value) (d : Option Addr) : Prop :=
  (∃ c fs, n ∈ [0, 1, 2, 3, 4] ∧ (thC T)[n]? = some c ∧ (thF v)[n]? = some fs ∧ C = .ref c ∧ ∃ dd, d = some dd ∧ H dd = some (.xd fs.2)) ∨ (n = 5 ∧ C = .ref T.C_NothingToUndo) ∨ (n = 6 ∧ C = .ref T.C_NeverHeard) ∨ (n = 7 ∧ C = .ref T.C_TooMany)
def spThrown (T : All K mg) : Sp := fun vs H Q E => ∃ (n : Nat) (v : V), vs = [.int (n : Int), v] ∧ n < 8 ∧ ∀ H' C d, Same H H' → Thr T n v H' C d → E C d H'
theorem int_ne {a b : Nat} (h : a ≠ b) : decide (V.int (a : Int) = V.int (b : Int)) = false := decide_eq_false fun z => h (by injection z with z; omega)
theorem ok_law_thrown (T : All K mg) : FnOk PW w K mg base (L2.CX PW w) 2 T.f_law_thrown T.d_law_thrown ["_law_way", "_law_odd"] (spThrown T) := by
  refine T.law_thrown.F.okX sc_law_thrown (fun vs H Q E h => ?_) (fun cdv A outer s H vs Q E hr h => ?_)
  · obtain ⟨n, v, rfl, _⟩ := h
    rfl
  · obtain ⟨n, v, rfl, hn, qE⟩ := h
    refine ⟨_, pss_cons (ps_if (pt_cmpR op_eq (pv 0) pe_int (nomark _)) (pss_one (ps_raise1 rfl T.er_InvalidRows.er (hr.mono (by decide)) (takes_of rfl rfl rfl rfl) T.g_InvalidRows (pa_cons (pv 1) pa_nil))) pss_nil)
      (pss_cons (ps_if (pt_cmpR op_eq (pv 0) pe_int (nomark _)) (pss_one (ps_raise1 rfl T.er_InvalidRow.er (hr.mono (by decide)) (takes_of rfl rfl rfl rfl) T.g_InvalidRow (pa_cons (pv 1) pa_nil))) pss_nil)
      (pss_cons (ps_if (pt_cmpR op_eq (pv 0) pe_int (nomark _)) (pss_one (ps_raise1 rfl T.er_InvalidLetters.er (hr.mono (by decide)) (takes_of rfl rfl rfl rfl) T.g_InvalidLetters (pa_cons (pv 1) pa_nil))) pss_nil)
      (pss_cons (ps_if (pt_cmpR op_eq (pv 0) pe_int (nomark _)) (pss_one (ps_raise1 rfl T.er_InvalidLetter.er (hr.mono (by decide)) (takes_of rfl rfl rfl rfl) T.g_InvalidLetter (pa_cons (pv 1) pa_nil))) pss_nil)
      (pss_cons (ps_if (pt_cmpR op_eq (pv 0) pe_int (nomark _)) (pss_one (ps_raise1 rfl T.er_InvalidTexts.er (hr.mono (by decide)) (takes_of rfl rfl rfl rfl) T.g_InvalidTexts (pa_cons (pv 1) pa_nil))) pss_nil)
      (pss_cons (ps_if (pt_cmpR op_eq (pv 0) pe_int (nomark _)) (pss_one (ps_raise0 rfl T.er_NothingToUndo (hr.mono (by decide)) (takes_of rfl rfl rfl rfl) T.g_NothingToUndo)) pss_nil)
      (pss_cons (ps_if (pt_cmpR op_eq (pv 0) pe_int (nomark _)) (pss_one (ps_raise1 rfl T.er_NeverHeard.er (hr.mono (by decide)) (takes_of rfl rfl rfl rfl) T.g_NeverHeard (pa_cons (pv 1) pa_nil))) pss_nil)
      (pss_one (ps_raise2 rfl T.er_TooMany.er (hr.mono (by decide)) (takes_of rfl rfl rfl rfl) T.g_TooMany (pa_cons (pv 0) (pa_cons (pv 1) pa_nil)))))))))), ?_⟩
    try dsimp only [cxOf]
    have q := fun C d H' (s : Same H H') => qE H' C d s
    by_cases h0 : n = 0
    · subst h0
      exact ⟨_, rfl, rfl, _, rfl, ite_t rfl ⟨_, rfl, _, rfl, fun d nd => q _ _ _ (same_upd nd) (.inl ⟨_, _, by simp, rfl, rfl, rfl, d, rfl, upd_same⟩)⟩⟩
    refine ⟨_, rfl, rfl, _, rfl, ite_f (int_ne h0) ?_⟩
    dsimp only [tNext]
    by_cases h1 : n = 1
    · subst h1
      exact ⟨_, rfl, rfl, _, rfl, ite_t rfl ⟨_, rfl, _, rfl, fun d nd => q _ _ _ (same_upd nd) (.inl ⟨_, _, by simp, rfl, rfl, rfl, d, rfl, upd_same⟩)⟩⟩
    refine ⟨_, rfl, rfl, _, rfl, ite_f (int_ne h1) ?_⟩
    dsimp only [tNext]
    by_cases h2 : n = 2
    · subst h2
      exact ⟨_, rfl, rfl, _, rfl, ite_t rfl ⟨_, rfl, _, rfl, fun d nd => q _ _ _ (same_upd nd) (.inl ⟨_, _, by simp, rfl, rfl, rfl, d, rfl, upd_same⟩)⟩⟩
    refine ⟨_, rfl, rfl, _, rfl, ite_f (int_ne h2) ?_⟩
    dsimp only [tNext]
    by_cases h3 : n = 3
    · subst h3
      exact ⟨_, rfl, rfl, _, rfl, ite_t rfl ⟨_, rfl, _, rfl, fun d nd => q _ _ _ (same_upd nd) (.inl ⟨_, _, by simp, rfl, rfl, rfl, d, rfl, upd_same⟩)⟩⟩
    refine ⟨_, rfl, rfl, _, rfl, ite_f (int_ne h3) ?_⟩
    dsimp only [tNext]
    by_cases h4 : n = 4
    · subst h4
      exact ⟨_, rfl, rfl, _, rfl, ite_t rfl ⟨_, rfl, _, rfl, fun d nd => q _ _ _ (same_upd nd) (.inl ⟨_, _, by simp, rfl, rfl, rfl, d, rfl, upd_same⟩)⟩⟩
    refine ⟨_, rfl, rfl, _, rfl, ite_f (int_ne h4) ?_⟩
    dsimp only [tNext]
    by_cases h5 : n = 5
    · subst h5
      exact ⟨_, rfl, rfl, _, rfl, ite_t rfl (q _ _ _ (Same.refl H) (.inr (.inl ⟨rfl, rfl⟩)))⟩
    refine ⟨_, rfl, rfl, _, rfl, ite_f (int_ne h5) ?_⟩
    dsimp only [tNext]
    by_cases h6 : n = 6
    · subst h6
      exact ⟨_, rfl, rfl, _, rfl, ite_t rfl ⟨_, rfl, _, rfl, fun d nd => q _ _ _ (same_upd nd) (.inr (.inr (.inl ⟨rfl, rfl⟩)))⟩⟩
    refine ⟨_, rfl, rfl, _, rfl, ite_f (int_ne h6) ?_⟩
    dsimp only [tNext]
    exact ⟨_, rfl, _, rfl, _, _, rfl, fun d nd => q _ _ _ (same_upd nd) (.inr (.inr (.inr ⟨by omega, rfl⟩)))⟩
end
end Lw
namespace Lw
open PySem PySem.Spec PyProof.Rows L3
open L2 hiding del del_same del_ne
section
variable {w : World} {K : PySem.W.Frag} {mg : Str → Option Value} {base : Heap}
def etR (T : All K mg) : List (Addr × List (Addr × Bool)) := [(T.C_InvalidRows, [(T.C_InvalidRow, false), (T.C_InvalidRows, true), (T.C_InvalidLetter, false), (T.C_InvalidLetters, false), (T.C_InvalidText, false), (T.C_PartsError, true), (T.C_NothingToUndo, false), (T.C_StateError, false), (T.C_LimitError, false)]), (T.C_InvalidRow, [(T.C_InvalidRow, true), (T.C_InvalidRows, false), (T.C_InvalidLetter, false), (T.C_InvalidLetters, false), (T.C_InvalidText, false), (T.C_PartsError, true), (T.C_NothingToUndo, false), (T.C_StateError, false), (T.C_LimitError, false)]), (T.C_InvalidLetters, [(T.C_InvalidRow, false), (T.C_InvalidRows, false), (T.C_InvalidLetter, false), (T.C_InvalidLetters, true), (T.C_InvalidText, false), (T.C_PartsError, true), (T.C_NothingToUndo, false), (T.C_StateError, false), (T.C_LimitError, false)]), (T.C_InvalidLetter, [(T.C_InvalidRow, false), (T.C_InvalidRows, false), (T.C_InvalidLetter, true), (T.C_InvalidLetters, false), (T.C_InvalidText, false), (T.C_PartsError, true), (T.C_NothingToUndo, false), (T.C_StateError, false), (T.C_LimitError, false)]), (T.C_InvalidTexts, [(T.C_InvalidRow, false), (T.C_InvalidRows, false), (T.C_InvalidLetter, false), (T.C_InvalidLetters, false), (T.C_InvalidText, false), (T.C_PartsError, true), (T.C_NothingToUndo, false), (T.C_StateError, false), (T.C_LimitError, false)]), (T.C_NothingToUndo, [(T.C_InvalidRow, false), (T.C_InvalidRows, false), (T.C_InvalidLetter, false), (T.C_InvalidLetters, false), (T.C_InvalidText, false), (T.C_PartsError, false), (T.C_NothingToUndo, true), (T.C_StateError, true), (T.C_LimitError, false)]), (T.C_NeverHeard, [(T.C_InvalidRow, false), (T.C_InvalidRows, false), (T.C_InvalidLetter, false), (T.C_InvalidLetters, false), (T.C_InvalidText, false), (T.C_PartsError, false), (T.C_NothingToUndo, false), (T.C_StateError, true), (T.C_LimitError, false)]), (T.C_TooMany, [(T.C_InvalidRow, false), (T.C_InvalidRows, false), (T.C_InvalidLetter, false), (T.C_InvalidLetters, false), (T.C_InvalidText, false), (T.C_PartsError, false), (T.C_NothingToUndo, false), (T.C_StateError, false), (T.C_LimitError, true)])]
theorem et_at (T : All K mg) {i j : Nat} {p : Addr × List (Addr × Bool)} {q : Addr × Bool} (h : (etR T)[i]? = some p) (h2 : p.2[j]? = some q) : PySem.W.exmOne K (.ref p.1) (.ref q.1) = some q.2 := by
  have h3 := List.all_eq_true.mp T.et p (List.mem_of_getElem? h)
  exact of_decide_eq_true (List.all_eq_true.mp h3 q (List.mem_of_getElem? h2))
/-! ### _law_caught -/
def spCaught : Sp := fun vs H Q _ => ∃ (n : Nat) (v : V), vs = [.int (n : Int), v] ∧ n < 8 ∧ ∀ H' p, Same H H' → H p = none → H' p = some (.lst [.int (n : Int), v]) → Q (.ref p) H'
theorem ok_law_caught (T : All K mg) : FnOk PW w K mg base CX0 3 T.f_law_caught T.d_law_caught ["_law_way", "_law_odd"] spCaught := by
  refine T.law_caught.F.ok sc_law_caught (fun vs H Q E h => ?_) (fun cdv A outer s H vs Q E hr h => ?_)
  · obtain ⟨n, v, rfl, _⟩ := h
    rfl
  · obtain ⟨n, v, rfl, hn, q⟩ := h
    refine ⟨_, (pss_cons (ps_set (i := 2) sc_law_caught.nd rfl (Or.inl rfl) (pe_lst (pa_cons pe_str (pa_cons pe_non pa_nil))))
      (pss_cons (ps_try_mix (tb := fun W => tDrop (tCallS (spThrown T) (WE W) (tCons (tVar 0) (tCons (tVar 1) tNil)))) (Wout := fun _ _ _ _ => False) rfl rfl sc_law_caught.nd takes0
        (fun W pn xe tk _ => pss_one (ps_expr (pe_callS (ok_law_thrown T) (hr.mono (by decide)) rfl T.law_thrown.g T.law_thrown.F.kp T.law_thrown.b (fun σ => passAt tk σ) (by exact (pa_cons (pv 0) (pa_cons (pv 1) pa_nil))))))
        (.named (i := 3) ⟨rfl, by decide, Or.inl T.g_InvalidRow⟩ rfl rfl (fun a oe cls d pn hz hf => pss_one (ps_set (i := 2) sc_law_caught.nd rfl (Or.inl rfl) (pe_lst (pa_cons pe_int (pa_cons (pe_xf T.xf_InvalidRow T.nf_InvalidRow_row hz hf (pv 3)) pa_nil)))))
        (.named (i := 3) ⟨rfl, by decide, Or.inl T.g_InvalidRows⟩ rfl rfl (fun a oe cls d pn hz hf => pss_one (ps_set (i := 2) sc_law_caught.nd rfl (Or.inl rfl) (pe_lst (pa_cons pe_int (pa_cons (pe_xf T.xf_InvalidRows T.nf_InvalidRows_position hz hf (pv 3)) pa_nil)))))
        (.named (i := 3) ⟨rfl, by decide, Or.inl T.g_InvalidLetter⟩ rfl rfl (fun a oe cls d pn hz hf => pss_one (ps_set (i := 2) sc_law_caught.nd rfl (Or.inl rfl) (pe_lst (pa_cons pe_int (pa_cons (pe_xf T.xf_InvalidLetter T.nf_InvalidLetter_value hz hf (pv 3)) pa_nil)))))
        (.named (i := 3) ⟨rfl, by decide, Or.inl T.g_InvalidLetters⟩ rfl rfl (fun a oe cls d pn hz hf => pss_one (ps_set (i := 2) sc_law_caught.nd rfl (Or.inl rfl) (pe_lst (pa_cons pe_int (pa_cons (pe_xf T.xf_InvalidLetters T.nf_InvalidLetters_value hz hf (pv 3)) pa_nil)))))
        (.named (i := 3) ⟨rfl, by decide, Or.inl T.g_InvalidText⟩ rfl rfl (fun a oe cls d pn hz hf => pss_one (ps_set (i := 2) sc_law_caught.nd rfl (Or.inl rfl) (pe_lst (pa_cons pe_str (pa_cons (pe_xf T.xf_InvalidText T.nf_InvalidText_value hz hf (pv 3)) pa_nil)))))
        (.bare ⟨rfl, by decide, Or.inl T.g_PartsError⟩ (fun a oe cls d pn hz hf => pss_one (ps_set (i := 2) sc_law_caught.nd rfl (Or.inl rfl) (pe_lst (pa_cons pe_int (pa_cons (pv 1) pa_nil)))))
        (.bare ⟨rfl, by decide, Or.inl T.g_NothingToUndo⟩ (fun a oe cls d pn hz hf => pss_one (ps_set (i := 2) sc_law_caught.nd rfl (Or.inl rfl) (pe_lst (pa_cons pe_int (pa_cons (pv 1) pa_nil)))))
        (.bare ⟨rfl, by decide, Or.inl T.g_StateError⟩ (fun a oe cls d pn hz hf => pss_one (ps_set (i := 2) sc_law_caught.nd rfl (Or.inl rfl) (pe_lst (pa_cons pe_int (pa_cons (pv 1) pa_nil)))))
        (.bare ⟨rfl, by decide, Or.inl T.g_LimitError⟩ (fun a oe cls d pn hz hf => pss_one (ps_set (i := 2) sc_law_caught.nd rfl (Or.inl rfl) (pe_lst (pa_cons pe_int (pa_cons (pv 1) pa_nil)))))
        .nil))))))))))
      (pss_one (ps_ret (pv 2))))), ?_⟩
    try dsimp only [cxOf]
    refine ⟨by show 2 ≤ sizeLine; decide, fun p0 n0 => ?_⟩
    have t0 := same_upd (o := .lst [.str "nothing", .non]) n0
    generalize upd H p0 (.lst [.str "nothing", .non]) = H0 at *
    refine ⟨_, rfl, _, rfl, n, v, rfl, hn, fun H1 C d s1 th => ?_⟩
    have fin : ∀ (G : Hp) (p : Addr), Same H0 G → G p = none → Q (.ref p) (upd G p (.lst [.int (n : Int), v])) := fun G p sG np => q _ p ((t0.trans sG).trans (same_upd np)) ((t0.trans sG).free np) upd_same
    rcases th with ⟨c, fs, hc, hC, hF, rfl, dd, rfl, hdd⟩ | ⟨rfl, rfl⟩ | ⟨rfl, rfl⟩ | ⟨rfl, rfl⟩
    · simp only [List.mem_cons, List.not_mem_nil, or_false] at hc
      rcases hc with rfl | rfl | rfl | rfl | rfl
      all_goals (cases hC; cases hF)

      · -- InvalidRows
        refine ⟨false, et_at T (i := 0) (j := 0) rfl rfl, (fun z => Bool.noConfusion z), fun _ => ?_⟩
        refine ⟨true, et_at T (i := 0) (j := 1) rfl rfl, (fun _ a na => ?_), fun z => Bool.noConfusion z⟩
        exact ⟨_, rfl, rfl, rfl, dd, _, v, rfl, hdd, rfl, by show 2 ≤ sizeLine; decide, fun p np => ⟨_, rfl, fin H1 p s1 np⟩⟩
      · -- InvalidRow
        refine ⟨true, et_at T (i := 1) (j := 0) rfl rfl, (fun _ a na => ?_), fun z => Bool.noConfusion z⟩
        exact ⟨_, rfl, rfl, rfl, dd, _, v, rfl, hdd, rfl, by show 2 ≤ sizeLine; decide, fun p np => ⟨_, rfl, fin H1 p s1 np⟩⟩
      · -- InvalidLetters
        refine ⟨false, et_at T (i := 2) (j := 0) rfl rfl, (fun z => Bool.noConfusion z), fun _ => ?_⟩
        refine ⟨false, et_at T (i := 2) (j := 1) rfl rfl, (fun z => Bool.noConfusion z), fun _ => ?_⟩
        refine ⟨false, et_at T (i := 2) (j := 2) rfl rfl, (fun z => Bool.noConfusion z), fun _ => ?_⟩
        refine ⟨true, et_at T (i := 2) (j := 3) rfl rfl, (fun _ a na => ?_), fun z => Bool.noConfusion z⟩
        exact ⟨_, rfl, rfl, rfl, dd, _, v, rfl, hdd, rfl, by show 2 ≤ sizeLine; decide, fun p np => ⟨_, rfl, fin H1 p s1 np⟩⟩
      · -- InvalidLetter
        refine ⟨false, et_at T (i := 3) (j := 0) rfl rfl, (fun z => Bool.noConfusion z), fun _ => ?_⟩
        refine ⟨false, et_at T (i := 3) (j := 1) rfl rfl, (fun z => Bool.noConfusion z), fun _ => ?_⟩
        refine ⟨true, et_at T (i := 3) (j := 2) rfl rfl, (fun _ a na => ?_), fun z => Bool.noConfusion z⟩
        exact ⟨_, rfl, rfl, rfl, dd, _, v, rfl, hdd, rfl, by show 2 ≤ sizeLine; decide, fun p np => ⟨_, rfl, fin H1 p s1 np⟩⟩
      · -- InvalidTexts
        refine ⟨false, et_at T (i := 4) (j := 0) rfl rfl, (fun z => Bool.noConfusion z), fun _ => ?_⟩
        refine ⟨false, et_at T (i := 4) (j := 1) rfl rfl, (fun z => Bool.noConfusion z), fun _ => ?_⟩
        refine ⟨false, et_at T (i := 4) (j := 2) rfl rfl, (fun z => Bool.noConfusion z), fun _ => ?_⟩
        refine ⟨false, et_at T (i := 4) (j := 3) rfl rfl, (fun z => Bool.noConfusion z), fun _ => ?_⟩
        refine ⟨false, et_at T (i := 4) (j := 4) rfl rfl, (fun z => Bool.noConfusion z), fun _ => ?_⟩
        refine ⟨true, et_at T (i := 4) (j := 5) rfl rfl, (fun _ a na => ?_), fun z => Bool.noConfusion z⟩
        exact ⟨_, rfl, by show 2 ≤ sizeLine; decide, fun p np => ⟨_, rfl, fin H1 p s1 np⟩⟩
    · -- NothingToUndo
      refine ⟨false, et_at T (i := 5) (j := 0) rfl rfl, (fun z => Bool.noConfusion z), fun _ => ?_⟩
      refine ⟨false, et_at T (i := 5) (j := 1) rfl rfl, (fun z => Bool.noConfusion z), fun _ => ?_⟩
      refine ⟨false, et_at T (i := 5) (j := 2) rfl rfl, (fun z => Bool.noConfusion z), fun _ => ?_⟩
      refine ⟨false, et_at T (i := 5) (j := 3) rfl rfl, (fun z => Bool.noConfusion z), fun _ => ?_⟩
      refine ⟨false, et_at T (i := 5) (j := 4) rfl rfl, (fun z => Bool.noConfusion z), fun _ => ?_⟩
      refine ⟨false, et_at T (i := 5) (j := 5) rfl rfl, (fun z => Bool.noConfusion z), fun _ => ?_⟩
      refine ⟨true, et_at T (i := 5) (j := 6) rfl rfl, (fun _ a na => ?_), fun z => Bool.noConfusion z⟩
      exact ⟨_, rfl, by show 2 ≤ sizeLine; decide, fun p np => ⟨_, rfl, fin H1 p s1 np⟩⟩
    · -- NeverHeard
      refine ⟨false, et_at T (i := 6) (j := 0) rfl rfl, (fun z => Bool.noConfusion z), fun _ => ?_⟩
      refine ⟨false, et_at T (i := 6) (j := 1) rfl rfl, (fun z => Bool.noConfusion z), fun _ => ?_⟩
      refine ⟨false, et_at T (i := 6) (j := 2) rfl rfl, (fun z => Bool.noConfusion z), fun _ => ?_⟩
      refine ⟨false, et_at T (i := 6) (j := 3) rfl rfl, (fun z => Bool.noConfusion z), fun _ => ?_⟩
      refine ⟨false, et_at T (i := 6) (j := 4) rfl rfl, (fun z => Bool.noConfusion z), fun _ => ?_⟩
      refine ⟨false, et_at T (i := 6) (j := 5) rfl rfl, (fun z => Bool.noConfusion z), fun _ => ?_⟩
      refine ⟨false, et_at T (i := 6) (j := 6) rfl rfl, (fun z => Bool.noConfusion z), fun _ => ?_⟩
      refine ⟨true, et_at T (i := 6) (j := 7) rfl rfl, (fun _ a na => ?_), fun z => Bool.noConfusion z⟩
      exact ⟨_, rfl, by show 2 ≤ sizeLine; decide, fun p np => ⟨_, rfl, fin H1 p s1 np⟩⟩
    · -- TooMany
      refine ⟨false, et_at T (i := 7) (j := 0) rfl rfl, (fun z => Bool.noConfusion z), fun _ => ?_⟩
      refine ⟨false, et_at T (i := 7) (j := 1) rfl rfl, (fun z => Bool.noConfusion z), fun _ => ?_⟩
      refine ⟨false, et_at T (i := 7) (j := 2) rfl rfl, (fun z => Bool.noConfusion z), fun _ => ?_⟩
      refine ⟨false, et_at T (i := 7) (j := 3) rfl rfl, (fun z => Bool.noConfusion z), fun _ => ?_⟩
      refine ⟨false, et_at T (i := 7) (j := 4) rfl rfl, (fun z => Bool.noConfusion z), fun _ => ?_⟩
      refine ⟨false, et_at T (i := 7) (j := 5) rfl rfl, (fun z => Bool.noConfusion z), fun _ => ?_⟩
      refine ⟨false, et_at T (i := 7) (j := 6) rfl rfl, (fun z => Bool.noConfusion z), fun _ => ?_⟩
      refine ⟨false, et_at T (i := 7) (j := 7) rfl rfl, (fun z => Bool.noConfusion z), fun _ => ?_⟩
      refine ⟨true, et_at T (i := 7) (j := 8) rfl rfl, (fun _ a na => ?_), fun z => Bool.noConfusion z⟩
      exact ⟨_, rfl, by show 2 ≤ sizeLine; decide, fun p np => ⟨_, rfl, fin H1 p s1 np⟩⟩
end
end Lw
namespace Lw
open PySem PySem.Spec PyProof.Rows L3
open L2 hiding del del_same del_ne
section
variable {w : World} {K : PySem.W.Frag} {mg : Str → Option Value} {base : Heap}
theorem look_mem {f : Str} {v : V} : ∀ {fs : List (Str × V)}, fs.lookup f = some v → (f, v) ∈ fs
  | [], h => by cases h
  | (g, u) :: fs, h => by
    rw [List.lookup_cons] at h
    cases e : f == g with
    | true =>
      rw [e] at h
      cases h
      rw [eq_of_beq e]
      exact List.mem_cons_self
    | false =>
      rw [e] at h
      exact List.mem_cons_of_mem _ (look_mem h)
/-- what a loop over errors needs of its slots -/
def Slt (σ : L2.St) (vs : List Nat) (i : Nat) : Prop := ∀ x, wipe ((wipe σ vs).set i (some x)) vs = wipe σ vs ∧ ((wipe σ vs).set i (some x))[i]? = some (some x)
/-- [te for e in errors] -/
theorem lc_evs (T : All K mg) {xs vl : List V} {es : List (Nat × List (Str × V))} {te : TE} {i : Nat} {vs : List Nat} {σ : L2.St} {H1 : Hp} {a D : Addr} {Qd : Hp → Prop} (hw : Slt σ vs i) (hE : Evs K (eCs T) H1 xs es) (hl : es.length ≤ vl.length)
    (hx : H1 a = some (.lst xs)) (nD : H1 D = none) (hz : xs.length ≤ 100)
    (hs : ∀ (j : Nat) (x : V) (e : Nat × List (Str × V)) (v : V) (H3 : Hp) (C : VK), es[j]? = some e → vl[j]? = some v → Same H1 H3 → EvAt K (eCs T) H3 x e.1 e.2 → (∀ H4, Same H3 H4 → C v H4) → te ((wipe σ vs).set i (some x)) H3 C)
    (hd : ∀ H3, Same H1 H3 → H3 D = some (.lst (vl.take xs.length)) → Qd H3) :
    ∃ W : Nat → Nat → Hp → Prop, (∃ m, W 0 m (upd H1 D (.lst []))) ∧ ∀ i' m H, W i' m H → ((Itl K a).stop i' H ∧ Qd H) ∨ ((Itl K a).go i' H ∧ ∃ Nx : Hp → Prop, (∀ H', Nx H' → ∃ m', m' < m ∧ W (i' + 1) m' H') ∧ ∀ x H', (Itl K a).yld i' H x H' → gName i x (wipe σ vs) H' fun σ2 H2 => wipe σ2 vs = wipe σ vs ∧ tYes σ2 H2 fun b H3 =>
      if b = true then te σ2 H3 fun y H4 => ∃ acc, H4 D = some (.lst acc) ∧ acc.length < sizeLine ∧ Nx (upd H4 D (.lst (acc ++ [y]))) else Nx H3) := by
  refine lc_gen (walk_list (xs := xs)) (Same H1) (fun j acc => acc = vl.take j) (sz (by omega)) (fun j acc e => by rw [e, List.length_take]; omega) rfl (same_upd nD) (fun _ _ h => same_up h nD) (fun H s => .inl (.inl (s _ _ hx))) (fun j x H3 H4 acc C N hj r hD ha y c nn => ?_) (fun H3 ys r hD ha => ?_)
  · obtain ⟨rfl, hy⟩ := y
    obtain ⟨e, he, hev⟩ := pr_get hE hy
    have hjl : j < vl.length := Nat.lt_of_lt_of_le (List.getElem?_eq_some_iff.mp he).1 hl
    have hvl : vl[j]? = some vl[j] := List.getElem?_eq_getElem hjl
    refine ⟨(hw _).1, yes_te (hs j x e vl[j] H4 C he hvl r (hev.same r) fun H5 s5 => c _ _ (r.trans s5) (s5 _ _ hD) ?_)⟩
    rw [ha, List.take_add_one, hvl]
    rfl
  · subst ha
    exact hd _ r hD
/-- [e.f for e in errors] -/
theorem lc_ev (T : All K mg) {xs vl : List V} {es : List (Nat × List (Str × V))} {f : Str} {i : Nat} {vs : List Nat} {σ : L2.St} {H1 : Hp} {a D : Addr} {Qd : Hp → Prop} (hw : Slt σ vs i) (hE : Evs K (eCs T) H1 xs es) (hv : Paired (fun (e : Nat × List (Str × V)) v => e.2.lookup f = some v) es vl)
    (hx : H1 a = some (.lst xs)) (nD : H1 D = none) (hz : xs.length ≤ 100) (hd : ∀ H3, Same H1 H3 → H3 D = some (.lst vl) → Qd H3) :
    ∃ W : Nat → Nat → Hp → Prop, (∃ m, W 0 m (upd H1 D (.lst []))) ∧ ∀ i' m H, W i' m H → ((Itl K a).stop i' H ∧ Qd H) ∨ ((Itl K a).go i' H ∧ ∃ Nx : Hp → Prop, (∀ H', Nx H' → ∃ m', m' < m ∧ W (i' + 1) m' H') ∧ ∀ x H', (Itl K a).yld i' H x H' → gName i x (wipe σ vs) H' fun σ2 H2 => wipe σ2 vs = wipe σ vs ∧ tYes σ2 H2 fun b H3 =>
      if b = true then tEvAt K f (tVar i) σ2 H3 fun y H4 => ∃ acc, H4 D = some (.lst acc) ∧ acc.length < sizeLine ∧ Nx (upd H4 D (.lst (acc ++ [y]))) else Nx H3) := by
  refine lc_evs T hw hE (Nat.le_of_eq (pr_len hv)) hx nD hz (fun j x e v H3 C he hvl r hev c => ?_) fun H3 r hD => ?_
  · obtain ⟨v', hv1, hl⟩ := pr_get hv he
    rw [hvl] at hv1
    cases hv1
    obtain ⟨aa, C', d, rfl, hC, ha', hd', hne, nf⟩ := hev
    obtain ⟨dd, rfl⟩ := hne (fun z => by rw [z] at hl; cases hl)
    exact ⟨_, (hw _).2, aa, C', dd, e.2, v, rfl, ha', hd' dd rfl, hl, xf_at T hC, nf _ (look_mem hl), c _ (Same.refl _)⟩
  · have hlen : vl.length ≤ xs.length := by rw [pr_len hE, pr_len hv]; exact Nat.le_refl _
    rw [List.take_of_length_le hlen] at hD
    exact hd _ r hD
theorem len_eqs {n : Nat} : (gBs n).length ≤ 100 := by show 6 ≤ 100; decide
theorem rep_take (n m : Nat) (v : V) (h : n ≤ m) : (List.replicate m v).take n = List.replicate n v := by rw [List.take_replicate, Nat.min_eq_left h]
/-- repr of lists of data -/
theorem shown_of {ds : List PyData} (h : ∀ d ∈ ds, Wd d 310 4) (hn : ds.length ≤ 15) : (PyData.list ds).showable = true ∧ (PyData.list ds).shown.length ≤ sizeLine ∧ (PyData.list ds).depth ≤ 50 := by
  have W := Wd.list h
  refine ⟨W.s, W.len ?_, Nat.le_trans W.p (by decide)⟩
  have := Nat.mul_le_mul_left 311 hn
  omega
theorem shown_of1 {ds : List PyData} (h : ∀ d ∈ ds, Wd d 150 3) (hn : ds.length ≤ 36) : (PyData.list ds).showable = true ∧ (PyData.list ds).shown.length ≤ sizeLine ∧ (PyData.list ds).depth ≤ 50 := by
  have W := Wd.list h
  refine ⟨W.s, W.len ?_, Nat.le_trans W.p (by decide)⟩
  have := Nat.mul_le_mul_left 151 hn
  omega
theorem wd_two {d e : PyData} {w k : Nat} (h1 : Wd d w k) (h2 : Wd e w k) {ds : List PyData} (h : ∀ x ∈ ds, x = d ∨ x = e) : ∀ x ∈ ds, Wd x w k := fun x hx => by
  rcases h x hx with rfl | rfl
  · exact h1
  · exact h2
end
end Lw
namespace Lw
open PySem PySem.Spec PyProof.Rows L3
open L2 hiding del del_same del_ne
section
variable {w : World} {K : PySem.W.Frag} {mg : Str → Option Value} {base : Heap}
/-! ### _law_values_right -/
def spVals (K : PySem.W.Frag) : Sp := fun vs H Q _ => ∃ (v u : V) (d e : PyData), vs = [v, u] ∧ DpD K H v d ∧ DpD K H u e ∧ Wd d 150 3 ∧ Wd e 150 3 ∧ ∀ H', Same H H' → Q (.bl true) H'
theorem any_rep (n : Nat) : (List.replicate n false).any id = false := by
  induction n with
  | zero => rfl
  | succ n ih => rw [List.replicate_succ, List.any_cons, ih]; rfl
theorem all_rep (n : Nat) : (List.replicate n true).all id = true := by
  induction n with
  | zero => rfl
  | succ n ih => rw [List.replicate_succ, List.all_cons, ih]; rfl
theorem gr_ne (T : All K mg) {i n g : Nat} {σ : L2.St} {H3 : Hp} {C : VK} {x : V} {fs : List (Str × V)} (hx : σ[i]? = some (some x)) (hev : EvAt K (eCs T) H3 x n fs) (hg : grp n = g) (c : ∀ H4, Same H3 H4 → C (.bl false) H4) :
    tOp (rNeD K) (tCall (spGrounds K (eCs T)) [] E0 (tCons (tVar i) tNil)) (tCall spGround [] E0 (tCons (tC (V.int (g : Int))) tNil)) σ H3 C := by
  refine ⟨_, hx, x, n, fs, rfl, hev, fun H4 p4 s4 n4 g4 => ⟨g, rfl, fun H5 p5 s5 n5 g5 => ?_⟩⟩
  rw [hg] at g4
  refine ⟨.list (dB (gBs g)), .list (dB (gBs g)), dpL_bl (s5 _ _ g4), dpL_bl g5, shL_bl len_eqs, shL_bl len_eqs, ?_⟩
  rw [eqvL_bl, decide_eq_true rfl]
  exact c _ (s4.trans s5)
theorem gr_eq (T : All K mg) {i n g : Nat} {σ : L2.St} {H3 : Hp} {C : VK} {x : V} {fs : List (Str × V)} (hx : σ[i]? = some (some x)) (hev : EvAt K (eCs T) H3 x n fs) (hg : grp n = g) (c : ∀ H4, Same H3 H4 → C (.bl true) H4) :
    tOp (rEqD K) (tCall (spGrounds K (eCs T)) [] E0 (tCons (tVar i) tNil)) (tCall spGround [] E0 (tCons (tC (V.int (g : Int))) tNil)) σ H3 C := by
  refine ⟨_, hx, x, n, fs, rfl, hev, fun H4 p4 s4 n4 g4 => ⟨g, rfl, fun H5 p5 s5 n5 g5 => ?_⟩⟩
  rw [hg] at g4
  refine ⟨.list (dB (gBs g)), .list (dB (gBs g)), dpL_bl (s5 _ _ g4), dpL_bl g5, shL_bl len_eqs, shL_bl len_eqs, ?_⟩
  rw [eqvL_bl, decide_eq_true rfl]
  exact c _ (s4.trans s5)
theorem grp_at {es : List (Nat × List (Str × V))} {g j : Nat} {e : Nat × List (Str × V)} (h : es.all (fun e => decide (grp e.1 = g)) = true) (he : es[j]? = some e) : grp e.1 = g := of_decide_eq_true (List.all_eq_true.mp h e (List.mem_of_getElem? he))
theorem rep_at {n j : Nat} {b : Bool} {x : V} (h : (List.replicate n (V.bl b))[j]? = some x) : x = .bl b := List.eq_of_mem_replicate (List.mem_of_getElem? h)
theorem ok_law_values_right (T : All K mg) : FnOkG PW w K mg base CX0 4 T.f_law_values_right T.d_law_values_right ["_law_mine", "_law_yours"] (spVals K) := by
  refine okG T.law_values_right.F sc_law_values_right (fun vs H Q E h => ?_) (fun cdv A outer s H vs Q E hr hG h => ?_)
  · obtain ⟨v, u, d, e, rfl, _⟩ := h
    rfl
  · obtain ⟨v, u, d, e, rfl, hv, hu, wd, we, q⟩ := h
    refine ⟨_, pss_cons (ps_set (i := 2) sc_law_values_right.nd rfl (by first | exact Or.inl rfl | exact Or.inr rfl) (pe_op op_cat (pe_op op_cat (pe_call (ok_law_by_value T) (hr.mono (by decide)) (by rfl) T.law_by_value.g T.law_by_value.F.kp T.law_by_value.b .nil pass0 (pa_cons (pv 0) pa_nil)) (pe_call (ok_law_by_named_value T) (hr.mono (by decide)) (by rfl) T.law_by_named_value.g T.law_by_named_value.F.kp T.law_by_named_value.b .nil pass0 (pa_cons (pv 0) pa_nil))) (pe_call (ok_law_by_value T) (hr.mono (by decide)) (by rfl) T.law_by_value.g T.law_by_value.F.kp T.law_by_value.b .nil pass0 (pa_cons (pv 1) pa_nil))))
      (pss_cons (ps_if (pt_cmpR op_ne (pe_callB (call_reprDs hr hG) (by rfl) T.b_repr (by decide +kernel) (pa_cons (pe_lc (own := [("_law_e", 3)]) (g := gName 3) (tt := tYes) rfl sc_law_values_right.nd (pi_list (pv 2))
          (blkOk_by (own := [("_law_e", 3)]) (N := ["_law_mine", "_law_yours", "_law_some", "_law_e", "_law_rows_now"]) (sc := defScope s_law_values_right) (by decide +kernel))
          (fun _ _ _ _ _ => pg_name (i := 3) sc_law_values_right.nd rfl (by first | exact Or.inl rfl | exact Or.inr rfl)) (fun _ _ _ _ _ => pts_nil)
          (fun _ _ _ _ _ => ((pe_evAtK (K := K) rfl) (pv 3)))) pa_nil)) (pe_callB (call_reprDs hr hG) (by rfl) T.b_repr (by decide +kernel) (pa_cons (pe_op op_cat (pe_op op_rep (pe_lst (pa_cons (pv 0) pa_nil)) pe_int) (pe_op op_rep (pe_lst (pa_cons (pv 1) pa_nil)) pe_int)) pa_nil)) (nomark _)) (pss_one ps_never) pss_nil)
      (pss_cons (ps_if (pt_val (pe_callB (cr_any rfl) (by rfl) T.b_any PyProof.Rows.boot_any (pa_cons (pe_lc (own := [("_law_e", 3)]) (g := gName 3) (tt := tYes) rfl sc_law_values_right.nd (pi_list (pv 2))
          (blkOk_by (own := [("_law_e", 3)]) (N := ["_law_mine", "_law_yours", "_law_some", "_law_e", "_law_rows_now"]) (sc := defScope s_law_values_right) (by decide +kernel))
          (fun _ _ _ _ _ => pg_name (i := 3) sc_law_values_right.nd rfl (by first | exact Or.inl rfl | exact Or.inr rfl)) (fun _ _ _ _ _ => pts_nil)
          (fun _ _ _ _ _ => (pe_cmpR (op_neDK (K := K) rfl (u64 hr)) (pe_call (ok_law_grounds T) (hr.mono (by decide)) (by rfl) T.law_grounds.g T.law_grounds.F.kp T.law_grounds.b .nil pass0 (pa_cons (pv 3) pa_nil)) (pe_call (ok_law_ground T) (hr.mono (by decide)) (by rfl) T.law_ground.g T.law_ground.F.kp T.law_ground.b .nil pass0 (pa_cons pe_int pa_nil)) (by rfl)))) pa_nil))) (pss_one ps_never) pss_nil)
      (pss_cons (ps_set (i := 2) sc_law_values_right.nd rfl (by first | exact Or.inl rfl | exact Or.inr rfl) (pe_op op_cat (pe_call (ok_law_by_position T) (hr.mono (by decide)) (by rfl) T.law_by_position.g T.law_by_position.F.kp T.law_by_position.b .nil pass0 (pa_cons (pv 0) pa_nil)) (pe_call (ok_law_by_named_position T) (hr.mono (by decide)) (by rfl) T.law_by_named_position.g T.law_by_named_position.F.kp T.law_by_named_position.b .nil pass0 (pa_cons (pv 1) pa_nil))))
      (pss_cons (ps_if (pt_cmpR op_ne (pe_callB (call_reprDs hr hG) (by rfl) T.b_repr (by decide +kernel) (pa_cons (pe_lc (own := [("_law_e", 3)]) (g := gName 3) (tt := tYes) rfl sc_law_values_right.nd (pi_list (pv 2))
          (blkOk_by (own := [("_law_e", 3)]) (N := ["_law_mine", "_law_yours", "_law_some", "_law_e", "_law_rows_now"]) (sc := defScope s_law_values_right) (by decide +kernel))
          (fun _ _ _ _ _ => pg_name (i := 3) sc_law_values_right.nd rfl (by first | exact Or.inl rfl | exact Or.inr rfl)) (fun _ _ _ _ _ => pts_nil)
          (fun _ _ _ _ _ => ((pe_evAtK (K := K) rfl) (pv 3)))) pa_nil)) (pe_callB (call_reprDs hr hG) (by rfl) T.b_repr (by decide +kernel) (pa_cons (pe_op op_cat (pe_op op_rep (pe_lst (pa_cons (pv 0) pa_nil)) pe_int) (pe_op op_rep (pe_lst (pa_cons (pv 1) pa_nil)) pe_int)) pa_nil)) (nomark _)) (pss_one ps_never) pss_nil)
      (pss_cons (ps_set (i := 4) sc_law_values_right.nd rfl (by first | exact Or.inl rfl | exact Or.inr rfl) (pe_lst (pa_cons (pe_ev1 T.er_InvalidRow (hr.mono (by decide)) T.g_InvalidRow (pa_cons (pv 0) pa_nil)) (pa_cons (pe_ev1K T.er_InvalidRow (hr.mono (by decide)) T.g_InvalidRow (pk_cons (pv 1) pk_nil)) pa_nil))))
      (pss_cons (ps_if (pt_cmpR op_ne (pe_callB (call_reprDs hr hG) (by rfl) T.b_repr (by decide +kernel) (pa_cons (pe_lc (own := [("_law_e", 3)]) (g := gName 3) (tt := tYes) rfl sc_law_values_right.nd (pi_list (pv 4))
          (blkOk_by (own := [("_law_e", 3)]) (N := ["_law_mine", "_law_yours", "_law_some", "_law_e", "_law_rows_now"]) (sc := defScope s_law_values_right) (by decide +kernel))
          (fun _ _ _ _ _ => pg_name (i := 3) sc_law_values_right.nd rfl (by first | exact Or.inl rfl | exact Or.inr rfl)) (fun _ _ _ _ _ => pts_nil)
          (fun _ _ _ _ _ => ((pe_evAtK (K := K) rfl) (pv 3)))) pa_nil)) (pe_callB (call_reprDs hr hG) (by rfl) T.b_repr (by decide +kernel) (pa_cons (pe_lst (pa_cons (pv 0) (pa_cons (pv 1) pa_nil))) pa_nil)) (nomark _)) (pss_one ps_never) pss_nil)
      (pss_one (ps_ret (pe_callB (cr_all rfl) (by rfl) T.b_all PyProof.Rows.boot_all (pa_cons (pe_lc (own := [("_law_e", 3)]) (g := gName 3) (tt := tYes) rfl sc_law_values_right.nd (pi_list (pe_op op_cat (pv 2) (pv 4)))
          (blkOk_by (own := [("_law_e", 3)]) (N := ["_law_mine", "_law_yours", "_law_some", "_law_e", "_law_rows_now"]) (sc := defScope s_law_values_right) (by decide +kernel))
          (fun _ _ _ _ _ => pg_name (i := 3) sc_law_values_right.nd rfl (by first | exact Or.inl rfl | exact Or.inr rfl)) (fun _ _ _ _ _ => pts_nil)
          (fun _ _ _ _ _ => (pe_cmpR (op_eqDK (K := K) rfl (u64 hr)) (pe_call (ok_law_grounds T) (hr.mono (by decide)) (by rfl) T.law_grounds.g T.law_grounds.F.kp T.law_grounds.b .nil pass0 (pa_cons (pv 3) pa_nil)) (pe_call (ok_law_ground T) (hr.mono (by decide)) (by rfl) T.law_ground.g T.law_ground.F.kp T.law_ground.b .nil pass0 (pa_cons pe_int pa_nil)) (by rfl)))) pa_nil)))))))))), ?_⟩
    try dsimp only [cxOf]
    refine ⟨_, rfl, v, rfl, fun H1 p1 x1 s1 n1 g1 e1 => ⟨_, rfl, v, rfl, fun H2 p2 x2 s2 n2 g2 e2 => ?_⟩⟩
    have l1 : x1.length = 12 := pr_len e1
    have l2 : x2.length = 12 := pr_len e2
    refine ⟨p1, p2, _, _, rfl, rfl, s2 _ _ g1, g2, sz (by omega), fun p3 n3 => ?_⟩
    have E3 : Evs K (eCs T) (upd H2 p3 (.lst (x1 ++ x2))) (x1 ++ x2) _ := Evs.same (pr_app (Evs.same e1 s2) e2) (same_upd n3)
    have S3 := (s1.trans s2).trans (same_upd (o := .lst (x1 ++ x2)) n3)
    have g3 := upd_same (H := H2) (a := p3) (o := .lst (x1 ++ x2))
    generalize upd H2 p3 (.lst (x1 ++ x2)) = H3 at *
    clear e1 e2 s1 s2 g1 g2 n1 n2 n3
    refine ⟨_, rfl, u, rfl, fun H4 p4 x4 s4 n4 g4 e4 => ?_⟩
    have l4 : x4.length = 12 := pr_len e4
    refine ⟨p3, p4, _, _, rfl, rfl, s4 _ _ g3, g4, sz (by rw [List.length_append]; omega), fun p5 n5 => ?_⟩
    have E5 : Evs K (eCs T) (upd H4 p5 (.lst (x1 ++ x2 ++ x4))) (x1 ++ x2 ++ x4) (es_by_value v ++ es_by_named_value v ++ es_by_value u) := Evs.same (pr_app (Evs.same E3 s4) e4) (same_upd n5)
    have S5 := (S3.trans s4).trans (same_upd (o := .lst (x1 ++ x2 ++ x4)) n5)
    have g5 := upd_same (H := H4) (a := p5) (o := .lst (x1 ++ x2 ++ x4))
    generalize upd H4 p5 (.lst (x1 ++ x2 ++ x4)) = H5 at *
    clear E3 S3 e4 s4 g3 g4 n4 n5
    obtain ⟨X5, hX5⟩ : ∃ X5, X5 = x1 ++ x2 ++ x4 := ⟨_, rfl⟩
    have lX : X5.length = 36 := by rw [hX5, List.length_append, List.length_append, l1, l2, l4]
    rw [← hX5] at E5 g5
    clear hX5
    try dsimp only [gName]
    -- the values
    refine ⟨_, rfl, p5, rfl, ⟨X5, .inl (.inl g5)⟩, fun D nD => ?_⟩
    refine lc_ev T (vl := List.replicate 24 v ++ List.replicate 12 u) (fun x => ⟨rfl, rfl⟩) E5 ?_ g5 nD (by omega) (fun H6 s6 hD => ?_)
    · repeat' first | exact .nil | refine .cons rfl ?_
    have S6 := S5.trans s6
    refine ⟨D, _, List.replicate 24 d ++ List.replicate 12 e, rfl, .inl (.inl hD), DpDs.app (DpDs.rep (DpD.same S6 hv) 24) (DpDs.rep (DpD.same S6 hu) 12), ?_⟩
    have W6 := shown_of1 (wd_two wd we (ds := List.replicate 24 d ++ List.replicate 12 e) fun x hx => by
      rcases List.mem_append.mp hx with hx | hx
      · exact .inl (List.eq_of_mem_replicate hx)
      · exact .inr (List.eq_of_mem_replicate hx)) (by simp)
    refine ⟨W6.1, W6.2.1, W6.2.2, ?_⟩
    refine ⟨_, rfl, sz (by show 1 ≤ 100000; decide), fun q1 m1 => ?_⟩
    have t1 := same_upd (o := .lst [v]) m1
    have k1 := upd_same (H := H6) (a := q1) (o := .lst [v])
    generalize upd H6 q1 (.lst [v]) = H7 at *
    refine ⟨q1, 24, [v], rfl, rfl, k1, by decide, by decide, sz (by show 1 * 24 ≤ 100000; decide), fun q2 m2 => ?_⟩
    rw [show (HO.lst (List.replicate (24 : Int).toNat [v]).flatten) = HO.lst (List.replicate 24 v) from rfl]
    have t2 := same_upd (o := .lst (List.replicate 24 v)) m2
    have k2 := upd_same (H := H7) (a := q2) (o := .lst (List.replicate 24 v))
    generalize upd H7 q2 (.lst (List.replicate 24 v)) = H8 at *
    refine ⟨_, rfl, sz (by show 1 ≤ 100000; decide), fun q3 m3 => ?_⟩
    have t3 := same_upd (o := .lst [u]) m3
    have k3 := upd_same (H := H8) (a := q3) (o := .lst [u])
    generalize upd H8 q3 (.lst [u]) = H9 at *
    refine ⟨q3, 12, [u], rfl, rfl, k3, by decide, by decide, sz (by show 1 * 12 ≤ 100000; decide), fun q4 m4 => ?_⟩
    rw [show (HO.lst (List.replicate (12 : Int).toNat [u]).flatten) = HO.lst (List.replicate 12 u) from rfl]
    have t4 := same_upd (o := .lst (List.replicate 12 u)) m4
    have k4 := upd_same (H := H9) (a := q4) (o := .lst (List.replicate 12 u))
    generalize upd H9 q4 (.lst (List.replicate 12 u)) = Ha at *
    refine ⟨q2, q4, _, _, rfl, rfl, (t3.trans t4) _ _ k2, k4, sz (by simp), fun q5 m5 => ?_⟩
    have t5 := same_upd (o := .lst (List.replicate 24 v ++ List.replicate 12 u)) m5
    have k5 := upd_same (H := Ha) (a := q5) (o := .lst (List.replicate 24 v ++ List.replicate 12 u))
    generalize upd Ha q5 (.lst (List.replicate 24 v ++ List.replicate 12 u)) = Hb at *
    have Sb := ((((S6.trans t1).trans t2).trans t3).trans t4).trans t5
    have E5 := Evs.same E5 (((((s6.trans t1).trans t2).trans t3).trans t4).trans t5)
    have g5 := (((((s6.trans t1).trans t2).trans t3).trans t4).trans t5) _ _ g5
    refine ⟨q5, _, List.replicate 24 d ++ List.replicate 12 e, rfl, .inl (.inl k5), DpDs.app (DpDs.rep (DpD.same Sb hv) 24) (DpDs.rep (DpD.same Sb hu) 12), W6.1, W6.2.1, W6.2.2, rfl, _, rfl, ite_f (by simp) ?_⟩
    clear W6 S5 S6 s6 t1 t2 t3 t4 t5 k1 k2 k3 k4 k5 m1 m2 m3 m4 m5 hD nD
    dsimp only [tNext]
    -- the grounds
    refine ⟨_, rfl, p5, rfl, ⟨X5, .inl (.inl g5)⟩, fun D nD => ?_⟩
    refine lc_evs T (vl := List.replicate 36 (.bl false)) (fun x => ⟨rfl, rfl⟩) E5 (by rw [← pr_len E5, lX]; simp) g5 nD (by omega) (fun j x ee z H3 C he hz r hev c => ?_) (fun H6 s6 hD => ?_)
    · exact gr_ne T (g := 0) rfl hev (grp_at (by rfl) he) fun H4 s4 => by rw [← rep_at hz]; exact c _ s4
    rw [lX, rep_take _ _ _ (Nat.le_refl _)] at hD
    refine ⟨D, List.replicate 36 false, rfl, .inl (.inl (by rw [hD]; rfl)), _, rfl, ite_f (any_rep _) ?_⟩
    have Sb := Sb.trans s6
    clear E5 g5 lX hD nD s6
    dsimp only [tNext]
    -- the positions
    refine ⟨_, rfl, v, rfl, fun Hc a1 y1 s1 n1 g1 e1 => ⟨_, rfl, u, rfl, fun Hd a2 y2 s2 n2 g2 e2 => ?_⟩⟩
    have m1 : y1.length = 6 := pr_len e1
    have m2 : y2.length = 6 := pr_len e2
    refine ⟨a1, a2, _, _, rfl, rfl, s2 _ _ g1, g2, sz (by omega), fun a3 n3 => ?_⟩
    have E3 : Evs K (eCs T) (upd Hd a3 (.lst (y1 ++ y2))) (y1 ++ y2) (es_by_position v ++ es_by_named_position u) := Evs.same (pr_app (Evs.same e1 s2) e2) (same_upd n3)
    have S3 := ((Sb.trans s1).trans s2).trans (same_upd (o := .lst (y1 ++ y2)) n3)
    have g3 := upd_same (H := Hd) (a := a3) (o := .lst (y1 ++ y2))
    generalize upd Hd a3 (.lst (y1 ++ y2)) = H3 at *
    have lY : (y1 ++ y2).length = 12 := by rw [List.length_append, m1, m2]
    clear e1 e2 s1 s2 g1 g2 n1 n2 n3 Sb
    obtain ⟨Y, hY⟩ : ∃ Y, Y = y1 ++ y2 := ⟨_, rfl⟩
    rw [← hY] at E3 g3 lY
    clear hY
    try dsimp only [gName]
    refine ⟨_, rfl, a3, rfl, ⟨Y, .inl (.inl g3)⟩, fun D nD => ?_⟩
    refine lc_ev T (vl := List.replicate 6 v ++ List.replicate 6 u) (fun x => ⟨rfl, rfl⟩) E3 ?_ g3 nD (by omega) (fun H6 s6 hD => ?_)
    · repeat' first | exact .nil | refine .cons rfl ?_
    have S6 := S3.trans s6
    have W6 := shown_of1 (wd_two wd we (ds := List.replicate 6 d ++ List.replicate 6 e) fun x hx => by
      rcases List.mem_append.mp hx with hx | hx
      · exact .inl (List.eq_of_mem_replicate hx)
      · exact .inr (List.eq_of_mem_replicate hx)) (by simp)
    refine ⟨D, _, List.replicate 6 d ++ List.replicate 6 e, rfl, .inl (.inl hD), DpDs.app (DpDs.rep (DpD.same S6 hv) 6) (DpDs.rep (DpD.same S6 hu) 6), W6.1, W6.2.1, W6.2.2, ?_⟩
    refine ⟨_, rfl, sz (by show 1 ≤ 100000; decide), fun q1 m1 => ?_⟩
    have t1 := same_upd (o := .lst [v]) m1
    have k1 := upd_same (H := H6) (a := q1) (o := .lst [v])
    generalize upd H6 q1 (.lst [v]) = H7 at *
    refine ⟨q1, 6, [v], rfl, rfl, k1, by decide, by decide, sz (by show 1 * 6 ≤ 100000; decide), fun q2 m2 => ?_⟩
    rw [show (HO.lst (List.replicate (6 : Int).toNat [v]).flatten) = HO.lst (List.replicate 6 v) from rfl]
    have t2 := same_upd (o := .lst (List.replicate 6 v)) m2
    have k2 := upd_same (H := H7) (a := q2) (o := .lst (List.replicate 6 v))
    generalize upd H7 q2 (.lst (List.replicate 6 v)) = H8 at *
    refine ⟨_, rfl, sz (by show 1 ≤ 100000; decide), fun q3 m3 => ?_⟩
    have t3 := same_upd (o := .lst [u]) m3
    have k3 := upd_same (H := H8) (a := q3) (o := .lst [u])
    generalize upd H8 q3 (.lst [u]) = H9 at *
    refine ⟨q3, 6, [u], rfl, rfl, k3, by decide, by decide, sz (by show 1 * 6 ≤ 100000; decide), fun q4 m4 => ?_⟩
    rw [show (HO.lst (List.replicate (6 : Int).toNat [u]).flatten) = HO.lst (List.replicate 6 u) from rfl]
    have t4 := same_upd (o := .lst (List.replicate 6 u)) m4
    have k4 := upd_same (H := H9) (a := q4) (o := .lst (List.replicate 6 u))
    generalize upd H9 q4 (.lst (List.replicate 6 u)) = Ha at *
    refine ⟨q2, q4, _, _, rfl, rfl, (t3.trans t4) _ _ k2, k4, sz (by simp), fun q5 m5 => ?_⟩
    have t5 := same_upd (o := .lst (List.replicate 6 v ++ List.replicate 6 u)) m5
    have k5 := upd_same (H := Ha) (a := q5) (o := .lst (List.replicate 6 v ++ List.replicate 6 u))
    generalize upd Ha q5 (.lst (List.replicate 6 v ++ List.replicate 6 u)) = He at *
    have SS := ((((s6.trans t1).trans t2).trans t3).trans t4).trans t5
    have Se := S3.trans SS
    have E3 := Evs.same E3 SS
    have g3 := SS _ _ g3
    refine ⟨q5, _, List.replicate 6 d ++ List.replicate 6 e, rfl, .inl (.inl k5), DpDs.app (DpDs.rep (DpD.same Se hv) 6) (DpDs.rep (DpD.same Se hu) 6), W6.1, W6.2.1, W6.2.2, rfl, _, rfl, ite_f (by simp) ?_⟩
    clear W6 S3 S6 SS s6 t1 t2 t3 t4 t5 k1 k2 k3 k4 k5 m1 m2 m3 m4 m5 hD nD
    dsimp only [tNext]
    -- the rows
    refine ⟨_, rfl, v, rfl, fun a1 d1 na1 nd1 hd1 => ?_⟩
    have t1 : Same He (upd (upd He d1 (.xd [("row", v)])) a1 (evO T.C_InvalidRow a1 (some d1))) := same_up (same_upd nd1) na1
    have f1 : EvAt K (eCs T) (upd (upd He d1 (.xd [("row", v)])) a1 (evO T.C_InvalidRow a1 (some d1))) (.ref a1) 18 [("row", v)] := EvAt.mk rfl hd1 (fun p hp => by rw [List.mem_singleton.mp hp]; exact T.nf_InvalidRow_row)
    generalize upd (upd He d1 (.xd [("row", v)])) a1 (evO T.C_InvalidRow a1 (some d1)) = Hf at *
    refine ⟨_, rfl, u, rfl, fun a2 d2 na2 nd2 hd2 => ?_⟩
    have t2 : Same Hf (upd (upd Hf d2 (.xd [("row", u)])) a2 (evO T.C_InvalidRow a2 (some d2))) := same_up (same_upd nd2) na2
    have f2 : EvAt K (eCs T) (upd (upd Hf d2 (.xd [("row", u)])) a2 (evO T.C_InvalidRow a2 (some d2))) (.ref a2) 18 [("row", u)] := EvAt.mk rfl hd2 (fun p hp => by rw [List.mem_singleton.mp hp]; exact T.nf_InvalidRow_row)
    generalize upd (upd Hf d2 (.xd [("row", u)])) a2 (evO T.C_InvalidRow a2 (some d2)) = Hg at *
    refine ⟨sz (by show 2 ≤ 100000; decide), fun pr nr => ?_⟩
    have t3 := same_upd (o := .lst [.ref a1, .ref a2]) nr
    have gr := upd_same (H := Hg) (a := pr) (o := .lst [.ref a1, .ref a2])
    generalize upd Hg pr (.lst [.ref a1, .ref a2]) = Hh at *
    have ER : Evs K (eCs T) Hh [.ref a1, .ref a2] [(18, [("row", v)]), (18, [("row", u)])] := .cons (f1.same (t2.trans t3)) (.cons (f2.same t3) .nil)
    have SS := (t1.trans t2).trans t3
    have Sh := Se.trans SS
    have E3 := Evs.same E3 SS
    have g3 := SS _ _ g3
    clear f1 f2 t1 t2 t3 SS Se nr na1 na2 nd1 nd2 hd1 hd2
    try dsimp only [gName]
    refine ⟨_, rfl, pr, rfl, ⟨_, .inl (.inl gr)⟩, fun D nD => ?_⟩
    refine lc_ev T (vl := [v, u]) (fun x => ⟨rfl, rfl⟩) ER (.cons rfl (.cons rfl .nil)) gr nD (by show 2 ≤ 100; decide) (fun H6 s6 hD => ?_)
    have S6 := Sh.trans s6
    have W6 := shown_of1 (wd_two wd we (ds := [d, e]) fun x hx => by simpa using hx) (by show 2 ≤ 36; decide)
    refine ⟨D, _, [d, e], rfl, .inl (.inl hD), .cons (DpD.same S6 hv) (.cons (DpD.same S6 hu) .nil), W6.1, W6.2.1, W6.2.2, ?_⟩
    refine ⟨_, rfl, _, rfl, sz (by show 2 ≤ 100000; decide), fun q1 m1 => ?_⟩
    have t1 := same_upd (o := .lst [v, u]) m1
    have k1 := upd_same (H := H6) (a := q1) (o := .lst [v, u])
    generalize upd H6 q1 (.lst [v, u]) = Hi at *
    have Si := S6.trans t1
    have SS := s6.trans t1
    have ER := Evs.same ER SS
    have gr := SS _ _ gr
    have E3 := Evs.same E3 SS
    have g3 := SS _ _ g3
    refine ⟨q1, _, [d, e], rfl, .inl (.inl k1), .cons (DpD.same Si hv) (.cons (DpD.same Si hu) .nil), W6.1, W6.2.1, W6.2.2, rfl, _, rfl, ite_f (by simp) ?_⟩
    clear W6 S6 SS s6 t1 k1 m1 hD nD Sh
    dsimp only [tNext]
    -- all
    refine ⟨_, rfl, _, rfl, a3, pr, _, _, rfl, rfl, g3, gr, sz (by rw [lY]; show 12 + 2 ≤ 100000; decide), fun pa na => ?_⟩
    have ta := same_upd (o := .lst (Y ++ [.ref a1, .ref a2])) na
    have ga := upd_same (H := Hi) (a := pa) (o := .lst (Y ++ [.ref a1, .ref a2]))
    generalize upd Hi pa (.lst (Y ++ [.ref a1, .ref a2])) = Hj at *
    have EA : Evs K (eCs T) Hj (Y ++ [.ref a1, .ref a2]) (es_by_position v ++ es_by_named_position u ++ ([(18, [("row", v)]), (18, [("row", u)])] : List (Nat × List (Str × V)))) := pr_app (Evs.same E3 ta) (Evs.same ER ta)
    have lA : (Y ++ [V.ref a1, .ref a2]).length = 14 := by rw [List.length_append, lY]; rfl
    generalize Y ++ [V.ref a1, .ref a2] = YA at *
    refine ⟨pa, rfl, ⟨YA, .inl (.inl ga)⟩, fun D nD => ?_⟩
    refine lc_evs T (vl := List.replicate 14 (.bl true)) (fun x => ⟨rfl, rfl⟩) EA (by rw [← pr_len EA, lA]; simp) ga nD (by omega) (fun j x ee z H3 C he hz r hev c => ?_) (fun H6 s6 hD => ?_)
    · exact gr_eq T (g := 0) rfl hev (grp_at (by rfl) he) fun H4 s4 => by rw [← rep_at hz]; exact c _ s4
    rw [lA, rep_take _ _ _ (Nat.le_refl _)] at hD
    refine ⟨D, List.replicate 14 true, rfl, .inl (.inl (by rw [hD]; rfl)), ?_⟩
    rw [all_rep]
    exact q _ ((Si.trans ta).trans s6)
end
end Lw
namespace Lw
open PySem PySem.Spec PyProof.Rows L3
open L2 hiding del del_same del_ne
section
variable {w : World} {K : PySem.W.Frag} {mg : Str → Option Value} {base : Heap}
/-- [[e.f, e.g] for e in errors] -/
theorem lc_ev2 (T : All K mg) {xs : List V} {es : List (Nat × List (Str × V))} {f g : Str} {v u : V} {i : Nat} {vs : List Nat} {σ : L2.St} {H1 : Hp} {a D : Addr} {Qd : Hp → Prop} (hw : Slt σ vs i) (hE : Evs K (eCs T) H1 xs es) (hv : ∀ e ∈ es, e.2.lookup f = some v ∧ e.2.lookup g = some u)
    (hx : H1 a = some (.lst xs)) (nD : H1 D = none) (hz : xs.length ≤ 100) (hd : ∀ (H3 : Hp) (ps : List Addr), Same H1 H3 → H3 D = some (.lst (ps.map V.ref)) → ps.length = xs.length → (∀ p ∈ ps, H3 p = some (.lst [v, u])) → Qd H3) :
    ∃ W : Nat → Nat → Hp → Prop, (∃ m, W 0 m (upd H1 D (.lst []))) ∧ ∀ i' m H, W i' m H → ((Itl K a).stop i' H ∧ Qd H) ∨ ((Itl K a).go i' H ∧ ∃ Nx : Hp → Prop, (∀ H', Nx H' → ∃ m', m' < m ∧ W (i' + 1) m' H') ∧ ∀ x H', (Itl K a).yld i' H x H' → gName i x (wipe σ vs) H' fun σ2 H2 => wipe σ2 vs = wipe σ vs ∧ tYes σ2 H2 fun b H3 =>
      if b = true then tLst (tCons (tEvAt K f (tVar i)) (tCons (tEvAt K g (tVar i)) tNil)) σ2 H3 fun y H4 => ∃ acc, H4 D = some (.lst acc) ∧ acc.length < sizeLine ∧ Nx (upd H4 D (.lst (acc ++ [y]))) else Nx H3) := by
  refine lc_it (walk_list (xs := xs)) (fun j H => Same H1 H ∧ ∃ ps : List Addr, H D = some (.lst (ps.map V.ref)) ∧ ps.length = j ∧ ∀ p ∈ ps, p ≠ D ∧ H p = some (.lst [v, u])) ⟨same_upd nD, [], upd_same, rfl, fun p hp => nomatch hp⟩ (fun j H _ p => .inl (.inl (p.1 _ _ hx))) (fun j x H3 H4 hj p y => ?_) (fun H3 p => ?_)
  · obtain ⟨r, ps, hD, hl, hps⟩ := p
    obtain ⟨rfl, hy⟩ := y
    obtain ⟨e, he, hev⟩ := pr_get hE hy
    obtain ⟨l1, l2⟩ := hv e (List.mem_of_getElem? he)
    obtain ⟨aa, C', d, rfl, hC, ha', hd', hne, nf⟩ := hev.same r
    obtain ⟨dd, rfl⟩ := hne (fun z => by rw [z] at l1; cases l1)
    refine ⟨(hw _).1, yes_te ⟨_, (hw _).2, aa, C', dd, e.2, v, rfl, ha', hd' dd rfl, l1, xf_at T hC, nf _ (look_mem l1), _, (hw _).2, aa, C', dd, e.2, u, rfl, ha', hd' dd rfl, l2, xf_at T hC, nf _ (look_mem l2), sz (by show 2 ≤ 100000; decide), fun p np => ?_⟩⟩
    have s5 := same_upd (o := .lst [v, u]) np
    have npD : p ≠ D := fun z => by rw [z, hD] at np; cases np
    have nps : ∀ q ∈ ps, q ≠ p := fun q hq z => by
      have := (hps q hq).2
      rw [z, np] at this
      cases this
    refine ⟨ps.map V.ref, s5 _ _ hD, ?_, ?_, ps ++ [p], ?_, by rw [List.length_append, hl]; rfl, fun q hq => ?_⟩
    · rw [List.length_map, hl]
      have := sz (n := 101) (by decide)
      omega
    · exact same_up (r.trans s5) nD
    · rw [upd_same, List.map_append]; rfl
    · rcases List.mem_append.mp hq with hq | hq
      · exact ⟨(hps q hq).1, by rw [upd_ne (hps q hq).1, upd_ne (nps q hq)]; exact (hps q hq).2⟩
      · rw [List.mem_singleton.mp hq]
        exact ⟨npD, by rw [upd_ne npD, upd_same]⟩
  · obtain ⟨r, ps, hD, hl, hps⟩ := p
    exact hd H3 ps r hD hl fun p hp => (hps p hp).2
theorem dpds_two {H : Hp} {v u : V} {d e : PyData} (hv : DpD K H v d) (hu : DpD K H u e) : ∀ {ps : List Addr}, (∀ p ∈ ps, H p = some (.lst [v, u])) → DpDs K H (ps.map V.ref) (List.replicate ps.length (.list [d, e]))
  | [], _ => .nil
  | p :: ps, h => .cons (.lst (.inl (.inl (h p List.mem_cons_self))) (.cons hv (.cons hu .nil))) (dpds_two hv hu fun q hq => h q (List.mem_cons_of_mem _ hq))
theorem wd_pair {d e : PyData} (wd : Wd d 150 3) (we : Wd e 150 3) (n : Nat) : ∀ x ∈ List.replicate n (PyData.list [d, e]), Wd x 310 4 := fun x hx => by
  rw [List.eq_of_mem_replicate hx]
  exact (Wd.list (wd_two wd we (ds := [d, e]) fun x hx => by simpa using hx)).mono (by show 151 * 2 ≤ 310; decide) (by decide)
theorem mem4 {d e x : PyData} (h : x ∈ [d, e, e, d]) : x = d ∨ x = e := by
  simp only [List.mem_cons, List.not_mem_nil, or_false] at h
  rcases h with h | h | h | h
  · exact .inl h
  · exact .inr h
  · exact .inr h
  · exact .inl h
theorem mem2 {d e x : PyData} (h : x ∈ [d, d]) : x = d ∨ x = e := by
  simp only [List.mem_cons, List.not_mem_nil, or_false] at h
  rcases h with h | h <;> exact .inl h
/-! ### _law_states_right -/
theorem ok_law_states_right (T : All K mg) : FnOkG PW w K mg base CX0 3 T.f_law_states_right T.d_law_states_right ["_law_mine", "_law_yours"] (spVals K) := by
  refine okG T.law_states_right.F sc_law_states_right (fun vs H Q E h => ?_) (fun cdv A outer s H vs Q E hr hG h => ?_)
  · obtain ⟨v, u, d, e, rfl, _⟩ := h
    rfl
  · obtain ⟨v, u, d, e, rfl, hv, hu, wd, we, q⟩ := h
    refine ⟨_, pss_cons (ps_set (i := 2) sc_law_states_right.nd rfl (by first | exact Or.inl rfl | exact Or.inr rfl) (pe_lst (pa_cons (pe_ev2 T.er_OtherLetters (hr.mono (by decide)) T.g_OtherLetters (pa_cons (pv 0) (pa_cons (pv 1) pa_nil))) (pa_cons (pe_ev2K T.er_OtherLetters (hr.mono (by decide)) T.g_OtherLetters (pk_cons (pv 1) (pk_cons (pv 0) pk_nil))) pa_nil))))
      (pss_cons (ps_if (pt_cmpR op_ne (pe_callB (call_reprDs hr hG) (by rfl) T.b_repr (by decide +kernel) (pa_cons (pe_lc (own := [("_law_e", 3)]) (g := gName 3) (tt := tYes) rfl sc_law_states_right.nd (pi_list (pv 2))
          (blkOk_by (own := [("_law_e", 3)]) (N := ["_law_mine", "_law_yours", "_law_some", "_law_e", "_law_far", "_law_deaf", "_law_failed", "_law_none_now", "_law_much"]) (sc := defScope s_law_states_right) (by decide +kernel))
          (fun _ _ _ _ _ => pg_name (i := 3) sc_law_states_right.nd rfl (by first | exact Or.inl rfl | exact Or.inr rfl)) (fun _ _ _ _ _ => pts_nil)
          (fun _ _ _ _ _ => (pe_lst (pa_cons ((pe_evAtK (K := K) rfl) (pv 3)) (pa_cons ((pe_evAtK (K := K) rfl) (pv 3)) pa_nil))))) pa_nil)) (pe_callB (call_reprDs hr hG) (by rfl) T.b_repr (by decide +kernel) (pa_cons (pe_op op_rep (pe_lst (pa_cons (pe_lst (pa_cons (pv 0) (pa_cons (pv 1) pa_nil))) pa_nil)) pe_int) pa_nil)) (nomark _)) (pss_one ps_never) pss_nil)
      (pss_cons (ps_par rfl sc_law_states_right.nd (i := 4) (j := 5) rfl rfl (by decide) rfl rfl (pa_cons (pe_lst (pa_cons (pe_ev1 T.er_NotComeTo (hr.mono (by decide)) T.g_NotComeTo (pa_cons (pv 0) pa_nil)) (pa_cons (pe_ev1K T.er_NotComeTo (hr.mono (by decide)) T.g_NotComeTo (pk_cons (pv 1) pk_nil)) pa_nil))) (pa_cons (pe_lst (pa_cons (pe_ev1 T.er_NeverHeard (hr.mono (by decide)) T.g_NeverHeard (pa_cons (pv 1) pa_nil)) (pa_cons (pe_ev1K T.er_NeverHeard (hr.mono (by decide)) T.g_NeverHeard (pk_cons (pv 0) pk_nil)) pa_nil))) pa_nil)) (by rfl))
      (pss_cons (ps_par rfl sc_law_states_right.nd (i := 6) (j := 7) rfl rfl (by decide) rfl rfl (pa_cons (pe_lst (pa_cons (pe_ev1 T.er_CommandFailed (hr.mono (by decide)) T.g_CommandFailed (pa_cons (pv 0) pa_nil)) (pa_cons (pe_ev1K T.er_CommandFailed (hr.mono (by decide)) T.g_CommandFailed (pk_cons (pv 0) pk_nil)) pa_nil))) (pa_cons (pe_lst (pa_cons (pe_ev0 T.er_NothingToUndo (hr.mono (by decide)) T.g_NothingToUndo) pa_nil)) pa_nil)) (by rfl))
      (pss_cons (ps_if (pt_cmpR op_ne (pe_callB (call_reprDs hr hG) (by rfl) T.b_repr (by decide +kernel) (pa_cons (pe_op op_cat (pe_lc (own := [("_law_e", 3)]) (g := gName 3) (tt := tYes) rfl sc_law_states_right.nd (pi_list (pv 4))
          (blkOk_by (own := [("_law_e", 3)]) (N := ["_law_mine", "_law_yours", "_law_some", "_law_e", "_law_far", "_law_deaf", "_law_failed", "_law_none_now", "_law_much"]) (sc := defScope s_law_states_right) (by decide +kernel))
          (fun _ _ _ _ _ => pg_name (i := 3) sc_law_states_right.nd rfl (by first | exact Or.inl rfl | exact Or.inr rfl)) (fun _ _ _ _ _ => pts_nil)
          (fun _ _ _ _ _ => ((pe_evAtK (K := K) rfl) (pv 3)))) (pe_lc (own := [("_law_e", 3)]) (g := gName 3) (tt := tYes) rfl sc_law_states_right.nd (pi_list (pv 5))
          (blkOk_by (own := [("_law_e", 3)]) (N := ["_law_mine", "_law_yours", "_law_some", "_law_e", "_law_far", "_law_deaf", "_law_failed", "_law_none_now", "_law_much"]) (sc := defScope s_law_states_right) (by decide +kernel))
          (fun _ _ _ _ _ => pg_name (i := 3) sc_law_states_right.nd rfl (by first | exact Or.inl rfl | exact Or.inr rfl)) (fun _ _ _ _ _ => pts_nil)
          (fun _ _ _ _ _ => ((pe_evAtK (K := K) rfl) (pv 3))))) pa_nil)) (pe_callB (call_reprDs hr hG) (by rfl) T.b_repr (by decide +kernel) (pa_cons (pe_lst (pa_cons (pv 0) (pa_cons (pv 1) (pa_cons (pv 1) (pa_cons (pv 0) pa_nil))))) pa_nil)) (nomark _)) (pss_one ps_never) pss_nil)
      (pss_cons (ps_if (pt_cmpR op_ne (pe_callB (call_reprDs hr hG) (by rfl) T.b_repr (by decide +kernel) (pa_cons (pe_lc (own := [("_law_e", 3)]) (g := gName 3) (tt := tYes) rfl sc_law_states_right.nd (pi_list (pv 6))
          (blkOk_by (own := [("_law_e", 3)]) (N := ["_law_mine", "_law_yours", "_law_some", "_law_e", "_law_far", "_law_deaf", "_law_failed", "_law_none_now", "_law_much"]) (sc := defScope s_law_states_right) (by decide +kernel))
          (fun _ _ _ _ _ => pg_name (i := 3) sc_law_states_right.nd rfl (by first | exact Or.inl rfl | exact Or.inr rfl)) (fun _ _ _ _ _ => pts_nil)
          (fun _ _ _ _ _ => ((pe_evAtK (K := K) rfl) (pv 3)))) pa_nil)) (pe_callB (call_reprDs hr hG) (by rfl) T.b_repr (by decide +kernel) (pa_cons (pe_lst (pa_cons (pv 0) (pa_cons (pv 0) pa_nil))) pa_nil)) (nomark _)) (pss_one ps_never) pss_nil)
      (pss_cons (ps_if (pt_val (pe_callB (cr_any rfl) (by rfl) T.b_any PyProof.Rows.boot_any (pa_cons (pe_lc (own := [("_law_e", 3)]) (g := gName 3) (tt := tYes) rfl sc_law_states_right.nd (pi_list (pe_op op_cat (pe_op op_cat (pe_op op_cat (pe_op op_cat (pv 2) (pv 4)) (pv 5)) (pv 6)) (pv 7)))
          (blkOk_by (own := [("_law_e", 3)]) (N := ["_law_mine", "_law_yours", "_law_some", "_law_e", "_law_far", "_law_deaf", "_law_failed", "_law_none_now", "_law_much"]) (sc := defScope s_law_states_right) (by decide +kernel))
          (fun _ _ _ _ _ => pg_name (i := 3) sc_law_states_right.nd rfl (by first | exact Or.inl rfl | exact Or.inr rfl)) (fun _ _ _ _ _ => pts_nil)
          (fun _ _ _ _ _ => (pe_cmpR (op_neDK (K := K) rfl (u64 hr)) (pe_call (ok_law_grounds T) (hr.mono (by decide)) (by rfl) T.law_grounds.g T.law_grounds.F.kp T.law_grounds.b .nil pass0 (pa_cons (pv 3) pa_nil)) (pe_call (ok_law_ground T) (hr.mono (by decide)) (by rfl) T.law_ground.g T.law_ground.F.kp T.law_ground.b .nil pass0 (pa_cons pe_int pa_nil)) (by rfl)))) pa_nil))) (pss_one ps_never) pss_nil)
      (pss_cons (ps_set (i := 8) sc_law_states_right.nd rfl (by first | exact Or.inl rfl | exact Or.inr rfl) (pe_lst (pa_cons (pe_ev2 T.er_TooMany (hr.mono (by decide)) T.g_TooMany (pa_cons (pv 0) (pa_cons (pv 1) pa_nil))) (pa_cons (pe_ev2K T.er_TooMany (hr.mono (by decide)) T.g_TooMany (pk_cons (pv 1) (pk_cons (pv 0) pk_nil))) pa_nil))))
      (pss_cons (ps_if (pt_cmpR op_ne (pe_callB (call_reprDs hr hG) (by rfl) T.b_repr (by decide +kernel) (pa_cons (pe_lc (own := [("_law_e", 3)]) (g := gName 3) (tt := tYes) rfl sc_law_states_right.nd (pi_list (pv 8))
          (blkOk_by (own := [("_law_e", 3)]) (N := ["_law_mine", "_law_yours", "_law_some", "_law_e", "_law_far", "_law_deaf", "_law_failed", "_law_none_now", "_law_much"]) (sc := defScope s_law_states_right) (by decide +kernel))
          (fun _ _ _ _ _ => pg_name (i := 3) sc_law_states_right.nd rfl (by first | exact Or.inl rfl | exact Or.inr rfl)) (fun _ _ _ _ _ => pts_nil)
          (fun _ _ _ _ _ => (pe_lst (pa_cons ((pe_evAtK (K := K) rfl) (pv 3)) (pa_cons ((pe_evAtK (K := K) rfl) (pv 3)) pa_nil))))) pa_nil)) (pe_callB (call_reprDs hr hG) (by rfl) T.b_repr (by decide +kernel) (pa_cons (pe_op op_rep (pe_lst (pa_cons (pe_lst (pa_cons (pv 0) (pa_cons (pv 1) pa_nil))) pa_nil)) pe_int) pa_nil)) (nomark _)) (pss_one ps_never) pss_nil)
      (pss_one (ps_ret (pe_callB (cr_all rfl) (by rfl) T.b_all PyProof.Rows.boot_all (pa_cons (pe_lc (own := [("_law_e", 3)]) (g := gName 3) (tt := tYes) rfl sc_law_states_right.nd (pi_list (pv 8))
          (blkOk_by (own := [("_law_e", 3)]) (N := ["_law_mine", "_law_yours", "_law_some", "_law_e", "_law_far", "_law_deaf", "_law_failed", "_law_none_now", "_law_much"]) (sc := defScope s_law_states_right) (by decide +kernel))
          (fun _ _ _ _ _ => pg_name (i := 3) sc_law_states_right.nd rfl (by first | exact Or.inl rfl | exact Or.inr rfl)) (fun _ _ _ _ _ => pts_nil)
          (fun _ _ _ _ _ => (pe_cmpR (op_eqDK (K := K) rfl (u64 hr)) (pe_call (ok_law_grounds T) (hr.mono (by decide)) (by rfl) T.law_grounds.g T.law_grounds.F.kp T.law_grounds.b .nil pass0 (pa_cons (pv 3) pa_nil)) (pe_call (ok_law_ground T) (hr.mono (by decide)) (by rfl) T.law_ground.g T.law_ground.F.kp T.law_ground.b .nil pass0 (pa_cons pe_int pa_nil)) (by rfl)))) pa_nil)))))))))))), ?_⟩
    try dsimp only [cxOf]
    obtain ⟨H0, hH0⟩ : ∃ H0, H0 = H := ⟨H, rfl⟩
    have S : Same H H0 := by rw [hH0]; exact Same.refl H
    rw [← hH0]
    clear hH0
    -- some
    refine ⟨_, rfl, _, rfl, _, _, rfl, fun a1 d1 na1 nd1 hd1 => ?_⟩
    have s_a1 : Same H0 (upd (upd H0 d1 (.xd [("other", u), ("one", v)])) a1 (evO T.C_OtherLetters a1 (some d1))) := same_up (same_upd nd1) na1
    have e_a1 : EvAt K (eCs T) (upd (upd H0 d1 (.xd [("other", u), ("one", v)])) a1 (evO T.C_OtherLetters a1 (some d1))) (.ref a1) 19 [("other", u), ("one", v)] := EvAt.mk rfl hd1 (fun p hp => by
      rcases List.mem_cons.mp hp with rfl | hp
      · exact T.nf_OtherLetters_other
      · rw [List.mem_singleton.mp hp]; exact T.nf_OtherLetters_one)
    generalize upd (upd H0 d1 (.xd [("other", u), ("one", v)])) a1 (evO T.C_OtherLetters a1 (some d1)) = H1 at *
    refine ⟨_, rfl, _, rfl, _, _, rfl, fun a2 d2 na2 nd2 hd2 => ?_⟩
    have s_a2 : Same H1 (upd (upd H1 d2 (.xd [("other", u), ("one", v)])) a2 (evO T.C_OtherLetters a2 (some d2))) := same_up (same_upd nd2) na2
    have e_a2 : EvAt K (eCs T) (upd (upd H1 d2 (.xd [("other", u), ("one", v)])) a2 (evO T.C_OtherLetters a2 (some d2))) (.ref a2) 19 [("other", u), ("one", v)] := EvAt.mk rfl hd2 (fun p hp => by
      rcases List.mem_cons.mp hp with rfl | hp
      · exact T.nf_OtherLetters_other
      · rw [List.mem_singleton.mp hp]; exact T.nf_OtherLetters_one)
    generalize upd (upd H1 d2 (.xd [("other", u), ("one", v)])) a2 (evO T.C_OtherLetters a2 (some d2)) = H2 at *
    refine ⟨sz (by show 2 ≤ 100000; decide), fun p1 np1 => ?_⟩
    have s_p1 := same_upd (o := .lst [.ref a1, .ref a2]) np1
    have g_p1 := upd_same (H := H2) (a := p1) (o := .lst [.ref a1, .ref a2])
    generalize upd H2 p1 (.lst [.ref a1, .ref a2]) = H3 at *
    have E1 : Evs K (eCs T) H3 [.ref a1, .ref a2] [(19, [("other", u), ("one", v)]), (19, [("other", u), ("one", v)])] := .cons (e_a1.same (s_a2.trans s_p1)) (.cons (e_a2.same s_p1) (.nil))
    have r_p1 := ((s_a1.trans s_a2).trans s_p1)
    have S := S.trans r_p1
    clear s_a1 e_a1 s_a2 e_a2 s_p1 r_p1
    try dsimp only [gName]
    refine ⟨_, rfl, p1, rfl, ⟨_, .inl (.inl g_p1)⟩, fun D nD => ?_⟩
    refine lc_ev2 T (v := v) (u := u) (fun x => ⟨rfl, rfl⟩) E1 (fun e he => ?_) g_p1 nD (by show 2 ≤ 100; decide) (fun H4 ps s6 hD hl hps => ?_)
    · simp only [List.mem_cons, List.not_mem_nil, or_false] at he
      rcases he with rfl | rfl <;> exact ⟨rfl, rfl⟩
    have S6 := S.trans s6
    have hl : ps.length = 2 := hl
    have dd6 := dpds_two (DpD.same S6 hv) (DpD.same S6 hu) hps
    rw [hl] at dd6
    have W6 := shown_of (wd_pair wd we 2) (by show 2 ≤ 15; decide)
    refine ⟨D, _, List.replicate 2 (.list [d, e]), rfl, .inl (.inl hD), dd6, W6.1, W6.2.1, W6.2.2, ?_⟩
    refine ⟨_, rfl, _, rfl, sz (by show 2 ≤ 100000; decide), fun q1 m1 => ?_⟩
    have t1 := same_upd (o := .lst [v, u]) m1
    have k1 := upd_same (H := H4) (a := q1) (o := .lst [v, u])
    generalize upd H4 q1 (.lst [v, u]) = H5 at *
    refine ⟨sz (by show 1 ≤ 100000; decide), fun q2 m2 => ?_⟩
    have t2 := same_upd (o := .lst [.ref q1]) m2
    have k2 := upd_same (H := H5) (a := q2) (o := .lst [.ref q1])
    generalize upd H5 q2 (.lst [.ref q1]) = H6 at *
    refine ⟨q2, 2, [.ref q1], rfl, rfl, k2, by decide, by decide, sz (by show 1 * 2 ≤ 100000; decide), fun q3 m3 => ?_⟩
    rw [show (HO.lst (List.replicate (2 : Int).toNat [V.ref q1]).flatten) = HO.lst ([q1, q1].map V.ref) from rfl]
    have t3 := same_upd (o := .lst ([q1, q1].map V.ref)) m3
    have k3 := upd_same (H := H6) (a := q3) (o := .lst ([q1, q1].map V.ref))
    generalize upd H6 q3 (.lst ([q1, q1].map V.ref)) = H7 at *
    have SS := ((s6.trans t1).trans t2).trans t3
    have S := S.trans SS
    have E1 := Evs.same E1 (SS)
    have g_p1 := (SS) _ _ g_p1
    have k1 := (t2.trans t3) _ _ k1
    have dd9 := dpds_two (DpD.same S hv) (DpD.same S hu) (ps := [q1, q1]) (fun p hp => by
      simp only [List.mem_cons, List.not_mem_nil, or_false] at hp
      rcases hp with rfl | rfl <;> exact k1)
    refine ⟨q3, _, List.replicate 2 (.list [d, e]), rfl, .inl (.inl k3), dd9, W6.1, W6.2.1, W6.2.2, rfl, _, rfl, ite_f (by simp) ?_⟩
    clear W6 S6 SS s6 t1 t2 t3 k1 k2 k3 m1 m2 m3 hD nD dd6 dd9 hl hps
    dsimp only [tNext]
    refine ⟨_, rfl, _, rfl, fun a3 d3 na3 nd3 hd3 => ?_⟩
    have s_a3 : Same H7 (upd (upd H7 d3 (.xd [("place", v)])) a3 (evO T.C_NotComeTo a3 (some d3))) := same_up (same_upd nd3) na3
    have e_a3 : EvAt K (eCs T) (upd (upd H7 d3 (.xd [("place", v)])) a3 (evO T.C_NotComeTo a3 (some d3))) (.ref a3) 20 [("place", v)] := EvAt.mk rfl hd3 (fun p hp => by rw [List.mem_singleton.mp hp]; exact T.nf_NotComeTo_place)
    generalize upd (upd H7 d3 (.xd [("place", v)])) a3 (evO T.C_NotComeTo a3 (some d3)) = H8 at *
    refine ⟨_, rfl, _, rfl, fun a4 d4 na4 nd4 hd4 => ?_⟩
    have s_a4 : Same H8 (upd (upd H8 d4 (.xd [("place", u)])) a4 (evO T.C_NotComeTo a4 (some d4))) := same_up (same_upd nd4) na4
    have e_a4 : EvAt K (eCs T) (upd (upd H8 d4 (.xd [("place", u)])) a4 (evO T.C_NotComeTo a4 (some d4))) (.ref a4) 20 [("place", u)] := EvAt.mk rfl hd4 (fun p hp => by rw [List.mem_singleton.mp hp]; exact T.nf_NotComeTo_place)
    generalize upd (upd H8 d4 (.xd [("place", u)])) a4 (evO T.C_NotComeTo a4 (some d4)) = H9 at *
    refine ⟨sz (by show 2 ≤ 100000; decide), fun p2 np2 => ?_⟩
    have s_p2 := same_upd (o := .lst [.ref a3, .ref a4]) np2
    have g_p2 := upd_same (H := H9) (a := p2) (o := .lst [.ref a3, .ref a4])
    generalize upd H9 p2 (.lst [.ref a3, .ref a4]) = H10 at *
    have E2 : Evs K (eCs T) H10 [.ref a3, .ref a4] [(20, [("place", v)]), (20, [("place", u)])] := .cons (e_a3.same (s_a4.trans s_p2)) (.cons (e_a4.same s_p2) (.nil))
    have r_p2 := ((s_a3.trans s_a4).trans s_p2)
    have S := S.trans r_p2
    have E1 := Evs.same E1 r_p2
    have g_p1 := r_p2 _ _ g_p1
    clear s_a3 e_a3 s_a4 e_a4 s_p2 r_p2
    refine ⟨_, rfl, _, rfl, fun a5 d5 na5 nd5 hd5 => ?_⟩
    have s_a5 : Same H10 (upd (upd H10 d5 (.xd [("value", u)])) a5 (evO T.C_NeverHeard a5 (some d5))) := same_up (same_upd nd5) na5
    have e_a5 : EvAt K (eCs T) (upd (upd H10 d5 (.xd [("value", u)])) a5 (evO T.C_NeverHeard a5 (some d5))) (.ref a5) 21 [("value", u)] := EvAt.mk rfl hd5 (fun p hp => by rw [List.mem_singleton.mp hp]; exact T.nf_NeverHeard_value)
    generalize upd (upd H10 d5 (.xd [("value", u)])) a5 (evO T.C_NeverHeard a5 (some d5)) = H11 at *
    refine ⟨_, rfl, _, rfl, fun a6 d6 na6 nd6 hd6 => ?_⟩
    have s_a6 : Same H11 (upd (upd H11 d6 (.xd [("value", v)])) a6 (evO T.C_NeverHeard a6 (some d6))) := same_up (same_upd nd6) na6
    have e_a6 : EvAt K (eCs T) (upd (upd H11 d6 (.xd [("value", v)])) a6 (evO T.C_NeverHeard a6 (some d6))) (.ref a6) 21 [("value", v)] := EvAt.mk rfl hd6 (fun p hp => by rw [List.mem_singleton.mp hp]; exact T.nf_NeverHeard_value)
    generalize upd (upd H11 d6 (.xd [("value", v)])) a6 (evO T.C_NeverHeard a6 (some d6)) = H12 at *
    refine ⟨sz (by show 2 ≤ 100000; decide), fun p3 np3 => ?_⟩
    have s_p3 := same_upd (o := .lst [.ref a5, .ref a6]) np3
    have g_p3 := upd_same (H := H12) (a := p3) (o := .lst [.ref a5, .ref a6])
    generalize upd H12 p3 (.lst [.ref a5, .ref a6]) = H13 at *
    have E3 : Evs K (eCs T) H13 [.ref a5, .ref a6] [(21, [("value", u)]), (21, [("value", v)])] := .cons (e_a5.same (s_a6.trans s_p3)) (.cons (e_a6.same s_p3) (.nil))
    have r_p3 := ((s_a5.trans s_a6).trans s_p3)
    have S := S.trans r_p3
    have E1 := Evs.same E1 r_p3
    have g_p1 := r_p3 _ _ g_p1
    have E2 := Evs.same E2 r_p3
    have g_p2 := r_p3 _ _ g_p2
    clear s_a5 e_a5 s_a6 e_a6 s_p3 r_p3
    refine ⟨_, _, rfl, ?_⟩
    try dsimp only [gName]
    refine ⟨_, rfl, _, rfl, fun a7 d7 na7 nd7 hd7 => ?_⟩
    have s_a7 : Same H13 (upd (upd H13 d7 (.xd [("position", v)])) a7 (evO T.C_CommandFailed a7 (some d7))) := same_up (same_upd nd7) na7
    have e_a7 : EvAt K (eCs T) (upd (upd H13 d7 (.xd [("position", v)])) a7 (evO T.C_CommandFailed a7 (some d7))) (.ref a7) 23 [("position", v)] := EvAt.mk rfl hd7 (fun p hp => by rw [List.mem_singleton.mp hp]; exact T.nf_CommandFailed_position)
    generalize upd (upd H13 d7 (.xd [("position", v)])) a7 (evO T.C_CommandFailed a7 (some d7)) = H14 at *
    refine ⟨_, rfl, _, rfl, fun a8 d8 na8 nd8 hd8 => ?_⟩
    have s_a8 : Same H14 (upd (upd H14 d8 (.xd [("position", v)])) a8 (evO T.C_CommandFailed a8 (some d8))) := same_up (same_upd nd8) na8
    have e_a8 : EvAt K (eCs T) (upd (upd H14 d8 (.xd [("position", v)])) a8 (evO T.C_CommandFailed a8 (some d8))) (.ref a8) 23 [("position", v)] := EvAt.mk rfl hd8 (fun p hp => by rw [List.mem_singleton.mp hp]; exact T.nf_CommandFailed_position)
    generalize upd (upd H14 d8 (.xd [("position", v)])) a8 (evO T.C_CommandFailed a8 (some d8)) = H15 at *
    refine ⟨sz (by show 2 ≤ 100000; decide), fun p4 np4 => ?_⟩
    have s_p4 := same_upd (o := .lst [.ref a7, .ref a8]) np4
    have g_p4 := upd_same (H := H15) (a := p4) (o := .lst [.ref a7, .ref a8])
    generalize upd H15 p4 (.lst [.ref a7, .ref a8]) = H16 at *
    have E4 : Evs K (eCs T) H16 [.ref a7, .ref a8] [(23, [("position", v)]), (23, [("position", v)])] := .cons (e_a7.same (s_a8.trans s_p4)) (.cons (e_a8.same s_p4) (.nil))
    have r_p4 := ((s_a7.trans s_a8).trans s_p4)
    have S := S.trans r_p4
    have E1 := Evs.same E1 r_p4
    have g_p1 := r_p4 _ _ g_p1
    have E2 := Evs.same E2 r_p4
    have g_p2 := r_p4 _ _ g_p2
    have E3 := Evs.same E3 r_p4
    have g_p3 := r_p4 _ _ g_p3
    clear s_a7 e_a7 s_a8 e_a8 s_p4 r_p4
    refine fun a9 na9 => ?_
    have s_a9 : Same H16 (upd H16 a9 (evO T.C_NothingToUndo a9 none)) := same_upd na9
    have e_a9 : EvAt K (eCs T) (upd H16 a9 (evO T.C_NothingToUndo a9 none)) (.ref a9) 22 [] := EvAt.mk0 rfl
    generalize upd H16 a9 (evO T.C_NothingToUndo a9 none) = H17 at *
    refine ⟨sz (by show 1 ≤ 100000; decide), fun p5 np5 => ?_⟩
    have s_p5 := same_upd (o := .lst [.ref a9]) np5
    have g_p5 := upd_same (H := H17) (a := p5) (o := .lst [.ref a9])
    generalize upd H17 p5 (.lst [.ref a9]) = H18 at *
    have E5 : Evs K (eCs T) H18 [.ref a9] [(22, [])] := .cons (e_a9.same s_p5) (.nil)
    have r_p5 := (s_a9.trans s_p5)
    have S := S.trans r_p5
    have E1 := Evs.same E1 r_p5
    have g_p1 := r_p5 _ _ g_p1
    have E2 := Evs.same E2 r_p5
    have g_p2 := r_p5 _ _ g_p2
    have E3 := Evs.same E3 r_p5
    have g_p3 := r_p5 _ _ g_p3
    have E4 := Evs.same E4 r_p5
    have g_p4 := r_p5 _ _ g_p4
    clear s_a9 e_a9 s_p5 r_p5
    refine ⟨_, _, rfl, ?_⟩
    try dsimp only [gName]
    refine ⟨_, rfl, p2, rfl, ⟨_, .inl (.inl g_p2)⟩, fun D nD => ?_⟩
    refine lc_ev T (vl := [v, u]) (fun x => ⟨rfl, rfl⟩) E2 (.cons rfl (.cons rfl .nil)) g_p2 nD (by show 2 ≤ 100; decide) (fun H19 s6 hD => ?_)
    have gD := hD
    have S := S.trans s6
    have E1 := Evs.same E1 s6
    have g_p1 := s6 _ _ g_p1
    have E2 := Evs.same E2 s6
    have g_p2 := s6 _ _ g_p2
    have E3 := Evs.same E3 s6
    have g_p3 := s6 _ _ g_p3
    have E4 := Evs.same E4 s6
    have g_p4 := s6 _ _ g_p4
    have E5 := Evs.same E5 s6
    have g_p5 := s6 _ _ g_p5
    clear s6 hD nD
    refine ⟨_, rfl, p3, rfl, ⟨_, .inl (.inl g_p3)⟩, fun D2 nD2 => ?_⟩
    refine lc_ev T (vl := [u, v]) (fun x => ⟨rfl, rfl⟩) E3 (.cons rfl (.cons rfl .nil)) g_p3 nD2 (by show 2 ≤ 100; decide) (fun H20 s6 hD => ?_)
    refine ⟨D, D2, _, _, rfl, rfl, s6 _ _ gD, hD, sz (by show 4 ≤ 100000; decide), fun D3 nD3 => ?_⟩
    have t1 := same_upd (o := .lst ([v, u] ++ [u, v])) nD3
    have gD3 := upd_same (H := H20) (a := D3) (o := .lst ([v, u] ++ [u, v]))
    generalize upd H20 D3 (.lst ([v, u] ++ [u, v])) = H21 at *
    have SS := s6.trans t1
    have S := S.trans SS
    have E1 := Evs.same E1 (SS)
    have g_p1 := (SS) _ _ g_p1
    have E2 := Evs.same E2 (SS)
    have g_p2 := (SS) _ _ g_p2
    have E3 := Evs.same E3 (SS)
    have g_p3 := (SS) _ _ g_p3
    have E4 := Evs.same E4 (SS)
    have g_p4 := (SS) _ _ g_p4
    have E5 := Evs.same E5 (SS)
    have g_p5 := (SS) _ _ g_p5
    clear SS s6 t1 gD hD nD2 nD3
    have W6 := shown_of1 (wd_two wd we (ds := [d, e, e, d]) fun x hx => mem4 hx) (by show 4 ≤ 36; decide)
    refine ⟨D3, _, [d, e, e, d], rfl, .inl (.inl gD3), .cons (DpD.same S hv) (.cons (DpD.same S hu) (.cons (DpD.same S hu) (.cons (DpD.same S hv) (.nil)))), W6.1, W6.2.1, W6.2.2, ?_⟩
    have s6 := Same.refl H21
    have S6 := S
    have hD := gD3
    have nD := gD3
    refine ⟨_, rfl, _, rfl, _, rfl, _, rfl, sz (by show 4 ≤ 100000; decide), fun q1 m1 => ?_⟩
    have t1 := same_upd (o := .lst [v, u, u, v]) m1
    have k1 := upd_same (H := H21) (a := q1) (o := .lst [v, u, u, v])
    generalize upd H21 q1 (.lst [v, u, u, v]) = H22 at *
    have SS := s6.trans t1
    have S := S.trans SS
    have E1 := Evs.same E1 (SS)
    have g_p1 := (SS) _ _ g_p1
    have E2 := Evs.same E2 (SS)
    have g_p2 := (SS) _ _ g_p2
    have E3 := Evs.same E3 (SS)
    have g_p3 := (SS) _ _ g_p3
    have E4 := Evs.same E4 (SS)
    have g_p4 := (SS) _ _ g_p4
    have E5 := Evs.same E5 (SS)
    have g_p5 := (SS) _ _ g_p5
    refine ⟨q1, _, [d, e, e, d], rfl, .inl (.inl k1), .cons (DpD.same S hv) (.cons (DpD.same S hu) (.cons (DpD.same S hu) (.cons (DpD.same S hv) (.nil)))), W6.1, W6.2.1, W6.2.2, rfl, _, rfl, ite_f (by simp) ?_⟩
    clear W6 S6 SS s6 t1 k1 m1 hD nD
    dsimp only [tNext]
    refine ⟨_, rfl, p4, rfl, ⟨_, .inl (.inl g_p4)⟩, fun D nD => ?_⟩
    refine lc_ev T (vl := [v, v]) (fun x => ⟨rfl, rfl⟩) E4 (.cons rfl (.cons rfl .nil)) g_p4 nD (by show 2 ≤ 100; decide) (fun H23 s6 hD => ?_)
    have S6 := S.trans s6
    have W6 := shown_of1 (wd_two wd we (ds := [d, d]) fun x hx => mem2 hx) (by show 2 ≤ 36; decide)
    refine ⟨D, _, [d, d], rfl, .inl (.inl hD), .cons (DpD.same S6 hv) (.cons (DpD.same S6 hv) (.nil)), W6.1, W6.2.1, W6.2.2, ?_⟩
    refine ⟨_, rfl, _, rfl, sz (by show 2 ≤ 100000; decide), fun q1 m1 => ?_⟩
    have t1 := same_upd (o := .lst [v, v]) m1
    have k1 := upd_same (H := H23) (a := q1) (o := .lst [v, v])
    generalize upd H23 q1 (.lst [v, v]) = H24 at *
    have SS := s6.trans t1
    have S := S.trans SS
    have E1 := Evs.same E1 (SS)
    have g_p1 := (SS) _ _ g_p1
    have E2 := Evs.same E2 (SS)
    have g_p2 := (SS) _ _ g_p2
    have E3 := Evs.same E3 (SS)
    have g_p3 := (SS) _ _ g_p3
    have E4 := Evs.same E4 (SS)
    have g_p4 := (SS) _ _ g_p4
    have E5 := Evs.same E5 (SS)
    have g_p5 := (SS) _ _ g_p5
    refine ⟨q1, _, [d, d], rfl, .inl (.inl k1), .cons (DpD.same S hv) (.cons (DpD.same S hv) (.nil)), W6.1, W6.2.1, W6.2.2, rfl, _, rfl, ite_f (by simp) ?_⟩
    clear W6 S6 SS s6 t1 k1 m1 hD nD
    dsimp only [tNext]
    refine ⟨_, rfl, _, rfl, ?_⟩
    refine ⟨p1, p2, _, _, rfl, rfl, g_p1, g_p2, sz (by show 2 + 2 ≤ 100000; decide), fun c0 nc0 => ?_⟩
    have t1 := same_upd (o := .lst ([.ref a1, .ref a2] ++ [.ref a3, .ref a4])) nc0
    have g_c0 := upd_same (H := H24) (a := c0) (o := .lst ([.ref a1, .ref a2] ++ [.ref a3, .ref a4]))
    generalize upd H24 c0 (.lst ([.ref a1, .ref a2] ++ [.ref a3, .ref a4])) = H25 at *
    have X0 : Evs K (eCs T) H25 ([.ref a1, .ref a2] ++ [.ref a3, .ref a4]) _ := pr_app (Evs.same E1 t1) (Evs.same E2 t1)
    have S := S.trans t1
    have E1 := Evs.same E1 (t1)
    have g_p1 := (t1) _ _ g_p1
    have E2 := Evs.same E2 (t1)
    have g_p2 := (t1) _ _ g_p2
    have E3 := Evs.same E3 (t1)
    have g_p3 := (t1) _ _ g_p3
    have E4 := Evs.same E4 (t1)
    have g_p4 := (t1) _ _ g_p4
    have E5 := Evs.same E5 (t1)
    have g_p5 := (t1) _ _ g_p5
    clear t1 nc0
    refine ⟨_, rfl, ?_⟩
    refine ⟨c0, p3, _, _, rfl, rfl, g_c0, g_p3, sz (by show 4 + 2 ≤ 100000; decide), fun c1 nc1 => ?_⟩
    have t1 := same_upd (o := .lst (([.ref a1, .ref a2] ++ [.ref a3, .ref a4]) ++ [.ref a5, .ref a6])) nc1
    have g_c1 := upd_same (H := H25) (a := c1) (o := .lst (([.ref a1, .ref a2] ++ [.ref a3, .ref a4]) ++ [.ref a5, .ref a6]))
    generalize upd H25 c1 (.lst (([.ref a1, .ref a2] ++ [.ref a3, .ref a4]) ++ [.ref a5, .ref a6])) = H26 at *
    have X1 : Evs K (eCs T) H26 (([.ref a1, .ref a2] ++ [.ref a3, .ref a4]) ++ [.ref a5, .ref a6]) _ := pr_app (Evs.same X0 t1) (Evs.same E3 t1)
    have S := S.trans t1
    have E1 := Evs.same E1 (t1)
    have g_p1 := (t1) _ _ g_p1
    have E2 := Evs.same E2 (t1)
    have g_p2 := (t1) _ _ g_p2
    have E3 := Evs.same E3 (t1)
    have g_p3 := (t1) _ _ g_p3
    have E4 := Evs.same E4 (t1)
    have g_p4 := (t1) _ _ g_p4
    have E5 := Evs.same E5 (t1)
    have g_p5 := (t1) _ _ g_p5
    clear t1 nc1
    refine ⟨_, rfl, ?_⟩
    refine ⟨c1, p4, _, _, rfl, rfl, g_c1, g_p4, sz (by show 6 + 2 ≤ 100000; decide), fun c2 nc2 => ?_⟩
    have t1 := same_upd (o := .lst ((([.ref a1, .ref a2] ++ [.ref a3, .ref a4]) ++ [.ref a5, .ref a6]) ++ [.ref a7, .ref a8])) nc2
    have g_c2 := upd_same (H := H26) (a := c2) (o := .lst ((([.ref a1, .ref a2] ++ [.ref a3, .ref a4]) ++ [.ref a5, .ref a6]) ++ [.ref a7, .ref a8]))
    generalize upd H26 c2 (.lst ((([.ref a1, .ref a2] ++ [.ref a3, .ref a4]) ++ [.ref a5, .ref a6]) ++ [.ref a7, .ref a8])) = H27 at *
    have X2 : Evs K (eCs T) H27 ((([.ref a1, .ref a2] ++ [.ref a3, .ref a4]) ++ [.ref a5, .ref a6]) ++ [.ref a7, .ref a8]) _ := pr_app (Evs.same X1 t1) (Evs.same E4 t1)
    have S := S.trans t1
    have E1 := Evs.same E1 (t1)
    have g_p1 := (t1) _ _ g_p1
    have E2 := Evs.same E2 (t1)
    have g_p2 := (t1) _ _ g_p2
    have E3 := Evs.same E3 (t1)
    have g_p3 := (t1) _ _ g_p3
    have E4 := Evs.same E4 (t1)
    have g_p4 := (t1) _ _ g_p4
    have E5 := Evs.same E5 (t1)
    have g_p5 := (t1) _ _ g_p5
    clear t1 nc2
    refine ⟨_, rfl, ?_⟩
    refine ⟨c2, p5, _, _, rfl, rfl, g_c2, g_p5, sz (by show 8 + 1 ≤ 100000; decide), fun c3 nc3 => ?_⟩
    have t1 := same_upd (o := .lst (((([.ref a1, .ref a2] ++ [.ref a3, .ref a4]) ++ [.ref a5, .ref a6]) ++ [.ref a7, .ref a8]) ++ [.ref a9])) nc3
    have g_c3 := upd_same (H := H27) (a := c3) (o := .lst (((([.ref a1, .ref a2] ++ [.ref a3, .ref a4]) ++ [.ref a5, .ref a6]) ++ [.ref a7, .ref a8]) ++ [.ref a9]))
    generalize upd H27 c3 (.lst (((([.ref a1, .ref a2] ++ [.ref a3, .ref a4]) ++ [.ref a5, .ref a6]) ++ [.ref a7, .ref a8]) ++ [.ref a9])) = H28 at *
    have X3 : Evs K (eCs T) H28 (((([.ref a1, .ref a2] ++ [.ref a3, .ref a4]) ++ [.ref a5, .ref a6]) ++ [.ref a7, .ref a8]) ++ [.ref a9]) _ := pr_app (Evs.same X2 t1) (Evs.same E5 t1)
    have S := S.trans t1
    have E1 := Evs.same E1 (t1)
    have g_p1 := (t1) _ _ g_p1
    have E2 := Evs.same E2 (t1)
    have g_p2 := (t1) _ _ g_p2
    have E3 := Evs.same E3 (t1)
    have g_p3 := (t1) _ _ g_p3
    have E4 := Evs.same E4 (t1)
    have g_p4 := (t1) _ _ g_p4
    have E5 := Evs.same E5 (t1)
    have g_p5 := (t1) _ _ g_p5
    clear t1 nc3
    refine ⟨c3, rfl, ⟨_, .inl (.inl g_c3)⟩, fun D nD => ?_⟩
    refine lc_evs T (vl := List.replicate 9 (.bl false)) (fun x => ⟨rfl, rfl⟩) X3 (by show 9 ≤ 9; decide) g_c3 nD (by show 9 ≤ 100; decide) (fun j x ee z H3 C he hz r hev c => ?_) (fun H29 s6 hD => ?_)
    · exact gr_ne T (g := 1) rfl hev (grp_at (by rfl) he) fun H4 s4 => by rw [← rep_at hz]; exact c _ s4
    refine ⟨D, List.replicate 9 false, rfl, .inl (.inl hD), _, rfl, ite_f (any_rep _) ?_⟩
    have S := S.trans s6
    clear E1 g_p1 E2 g_p2 E3 g_p3 E4 g_p4 E5 g_p5 s6 hD nD X0 g_c0 X1 g_c1 X2 g_c2 X3 g_c3
    dsimp only [tNext]
    refine ⟨_, rfl, _, rfl, _, _, rfl, fun b1 h1 nb1 nh1 hh1 => ?_⟩
    have s_b1 : Same H29 (upd (upd H29 h1 (.xd [("limit", u), ("what", v)])) b1 (evO T.C_TooMany b1 (some h1))) := same_up (same_upd nh1) nb1
    have e_b1 : EvAt K (eCs T) (upd (upd H29 h1 (.xd [("limit", u), ("what", v)])) b1 (evO T.C_TooMany b1 (some h1))) (.ref b1) 24 [("limit", u), ("what", v)] := EvAt.mk rfl hh1 (fun p hp => by
      rcases List.mem_cons.mp hp with rfl | hp
      · exact T.nf_TooMany_limit
      · rw [List.mem_singleton.mp hp]; exact T.nf_TooMany_what)
    generalize upd (upd H29 h1 (.xd [("limit", u), ("what", v)])) b1 (evO T.C_TooMany b1 (some h1)) = H30 at *
    refine ⟨_, rfl, _, rfl, _, _, rfl, fun b2 h2 nb2 nh2 hh2 => ?_⟩
    have s_b2 : Same H30 (upd (upd H30 h2 (.xd [("limit", u), ("what", v)])) b2 (evO T.C_TooMany b2 (some h2))) := same_up (same_upd nh2) nb2
    have e_b2 : EvAt K (eCs T) (upd (upd H30 h2 (.xd [("limit", u), ("what", v)])) b2 (evO T.C_TooMany b2 (some h2))) (.ref b2) 24 [("limit", u), ("what", v)] := EvAt.mk rfl hh2 (fun p hp => by
      rcases List.mem_cons.mp hp with rfl | hp
      · exact T.nf_TooMany_limit
      · rw [List.mem_singleton.mp hp]; exact T.nf_TooMany_what)
    generalize upd (upd H30 h2 (.xd [("limit", u), ("what", v)])) b2 (evO T.C_TooMany b2 (some h2)) = H31 at *
    refine ⟨sz (by show 2 ≤ 100000; decide), fun p6 np6 => ?_⟩
    have s_p6 := same_upd (o := .lst [.ref b1, .ref b2]) np6
    have g_p6 := upd_same (H := H31) (a := p6) (o := .lst [.ref b1, .ref b2])
    generalize upd H31 p6 (.lst [.ref b1, .ref b2]) = H32 at *
    have E6 : Evs K (eCs T) H32 [.ref b1, .ref b2] [(24, [("limit", u), ("what", v)]), (24, [("limit", u), ("what", v)])] := .cons (e_b1.same (s_b2.trans s_p6)) (.cons (e_b2.same s_p6) (.nil))
    have r_p6 := ((s_b1.trans s_b2).trans s_p6)
    have S := S.trans r_p6
    clear s_b1 e_b1 s_b2 e_b2 s_p6 r_p6
    try dsimp only [gName]
    refine ⟨_, rfl, p6, rfl, ⟨_, .inl (.inl g_p6)⟩, fun D nD => ?_⟩
    refine lc_ev2 T (v := v) (u := u) (fun x => ⟨rfl, rfl⟩) E6 (fun e he => ?_) g_p6 nD (by show 2 ≤ 100; decide) (fun H33 ps s6 hD hl hps => ?_)
    · simp only [List.mem_cons, List.not_mem_nil, or_false] at he
      rcases he with rfl | rfl <;> exact ⟨rfl, rfl⟩
    have S6 := S.trans s6
    have hl : ps.length = 2 := hl
    have dd6 := dpds_two (DpD.same S6 hv) (DpD.same S6 hu) hps
    rw [hl] at dd6
    have W6 := shown_of (wd_pair wd we 2) (by show 2 ≤ 15; decide)
    refine ⟨D, _, List.replicate 2 (.list [d, e]), rfl, .inl (.inl hD), dd6, W6.1, W6.2.1, W6.2.2, ?_⟩
    refine ⟨_, rfl, _, rfl, sz (by show 2 ≤ 100000; decide), fun q1 m1 => ?_⟩
    have t1 := same_upd (o := .lst [v, u]) m1
    have k1 := upd_same (H := H33) (a := q1) (o := .lst [v, u])
    generalize upd H33 q1 (.lst [v, u]) = H34 at *
    refine ⟨sz (by show 1 ≤ 100000; decide), fun q2 m2 => ?_⟩
    have t2 := same_upd (o := .lst [.ref q1]) m2
    have k2 := upd_same (H := H34) (a := q2) (o := .lst [.ref q1])
    generalize upd H34 q2 (.lst [.ref q1]) = H35 at *
    refine ⟨q2, 2, [.ref q1], rfl, rfl, k2, by decide, by decide, sz (by show 1 * 2 ≤ 100000; decide), fun q3 m3 => ?_⟩
    rw [show (HO.lst (List.replicate (2 : Int).toNat [V.ref q1]).flatten) = HO.lst ([q1, q1].map V.ref) from rfl]
    have t3 := same_upd (o := .lst ([q1, q1].map V.ref)) m3
    have k3 := upd_same (H := H35) (a := q3) (o := .lst ([q1, q1].map V.ref))
    generalize upd H35 q3 (.lst ([q1, q1].map V.ref)) = H36 at *
    have SS := ((s6.trans t1).trans t2).trans t3
    have S := S.trans SS
    have E6 := Evs.same E6 (SS)
    have g_p6 := (SS) _ _ g_p6
    have k1 := (t2.trans t3) _ _ k1
    have dd9 := dpds_two (DpD.same S hv) (DpD.same S hu) (ps := [q1, q1]) (fun p hp => by
      simp only [List.mem_cons, List.not_mem_nil, or_false] at hp
      rcases hp with rfl | rfl <;> exact k1)
    refine ⟨q3, _, List.replicate 2 (.list [d, e]), rfl, .inl (.inl k3), dd9, W6.1, W6.2.1, W6.2.2, rfl, _, rfl, ite_f (by simp) ?_⟩
    clear W6 S6 SS s6 t1 t2 t3 k1 k2 k3 m1 m2 m3 hD nD dd6 dd9 hl hps
    dsimp only [tNext]
    refine ⟨_, rfl, p6, rfl, ⟨_, .inl (.inl g_p6)⟩, fun D nD => ?_⟩
    refine lc_evs T (vl := List.replicate 2 (.bl true)) (fun x => ⟨rfl, rfl⟩) E6 (by show 2 ≤ 2; decide) g_p6 nD (by show 2 ≤ 100; decide) (fun j x ee z H3 C he hz r hev c => ?_) (fun HH s6 hD => ?_)
    · exact gr_eq T (g := 2) rfl hev (grp_at (by rfl) he) fun H4 s4 => by rw [← rep_at hz]; exact c _ s4
    refine ⟨D, List.replicate 2 true, rfl, .inl (.inl hD), ?_⟩
    exact q _ (S.trans s6)
end
end Lw
namespace Lw
open PySem PySem.Spec PyProof.Rows L3
open L2 hiding del del_same del_ne
/-- the texts that the law compares -/
def shW (d : PyData) (j : Nat) : Str := (PyData.list [.int j, d]).shown
theorem shW_ok {t j : Nat} (ht : t < 6) (hj : j < 8) {d : PyData} (h : d ∈ forms t) : PyData.strOk (shW d j) = true := by
  have key : (List.range 6).all (fun t => (forms t).all fun d => (List.range 8).all fun j => PyData.strOk (shW d j)) = true := by decide +kernel
  exact List.all_eq_true.mp (List.all_eq_true.mp (List.all_eq_true.mp key t (List.mem_range.mpr ht)) d h) j (List.mem_range.mpr hj)
def shL (d : PyData) (n : Nat) : List Str := (List.range n).map (shW d)
theorem wd_int {j : Nat} (hj : j < 8) : Wd (.int j) 150 3 := by
  have key : (List.range 8).all (fun j => wdB (.int j)) = true := by decide +kernel
  exact wd_of (List.all_eq_true.mp key j (List.mem_range.mpr hj))
theorem dpAll_str {K : PySem.W.Frag} {H : Hp} : ∀ l : List Str, DpAll K H (l.map V.str) (l.map PyData.str)
  | [] => .nil
  | b :: l => .cons (.str b) (dpAll_str l)
theorem eqv_strs (l : List Str) : PyData.eqv (.list (l.map PyData.str)) (.list (l.map PyData.str)) = true := by
  show PyData.eqvAll _ _ = _
  induction l with
  | nil => rfl
  | cons a l ih =>
    show (PyData.eqv (.str a) (.str a) && PyData.eqvAll (l.map PyData.str) (l.map PyData.str)) = true
    rw [ih]
    show ((a == a) && true) = true
    simp
theorem depth_strs (l : List Str) : PyData.depthAll (l.map PyData.str) ≤ 1 := by
  induction l with
  | nil => exact Nat.zero_le _
  | cons a l ih =>
    show max (PyData.depth (.str a)) (PyData.depthAll (l.map PyData.str)) ≤ 1
    refine Nat.max_le.mpr ⟨?_, ih⟩
    show 0 ≤ 1
    decide
theorem shL_shaped {t : Nat} (ht : t < 6) {d : PyData} (h : d ∈ forms t) : SeqAt.shaped (.list ((shL d 8).map PyData.str)) = true := by
  show ((PyData.canLayAll0 ((shL d 8).map PyData.str)) && decide ((PyData.list ((shL d 8).map PyData.str)).depth ≤ 64)) = true
  have h1 : (PyData.list ((shL d 8).map PyData.str)).depth ≤ 64 := by
    have := depth_strs (shL d 8)
    simp only [PyData.depth]
    omega
  rw [decide_eq_true h1, Bool.and_true, canLayAll_strs', List.all_eq_true]
  intro x hx
  unfold shL at hx
  obtain ⟨j, hj, rfl⟩ := List.mem_map.mp hx
  exact shW_ok ht (List.mem_range.mp hj) h
section
variable {w : World} {K : PySem.W.Frag} {mg : Str → Option Value} {base : Heap}
/-! ### _law_right -/
def spRight (K : PySem.W.Frag) : Sp := fun vs H Q _ => ∃ a : Addr, vs = [.ref a] ∧ Pot H a ∧ ∀ H', Pot H' a → Off a H H' → Q (.bl true) H'
theorem ok_law_right (T : All K mg) : FnOkG PW w K mg base CX0 5 T.f_law_right T.d_law_right ["_law_pot_here"] (spRight K) := by
  refine okG T.law_right.F sc_law_right (fun vs H Q E h => ?_) (fun cdv A outer s H vs Q E hr hG h => ?_)
  · obtain ⟨a, rfl, _⟩ := h
    rfl
  · obtain ⟨a, rfl, hp, q⟩ := h
    refine ⟨_, pss_cons (ps_for PassesOwn.never rfl (pi_range1 rfl T.b_range (pa_cons pe_int pa_nil)) (pg_name (i := 1) sc_law_right.nd rfl (by first | exact Or.inl rfl | exact Or.inr rfl))
        (pss_cons (ps_asg (pe_tup (pa_cons (pe_call (ok_law_thing T) (hr.mono (by decide)) (by rfl) T.law_thing.g T.law_thing.F.kp T.law_thing.b .nil pass0 (pa_cons (pv 0) (pa_cons (pv 1) pa_nil))) (pa_cons (pe_call (ok_law_thing T) (hr.mono (by decide)) (by rfl) T.law_thing.g T.law_thing.F.kp T.law_thing.b .nil pass0 (pa_cons (pv 0) (pa_cons (pe_op op_add (pv 1) pe_int) pa_nil))) pa_nil))) (pg_tup rfl (pgs_cons (pg_name (i := 2) sc_law_right.nd rfl (by first | exact Or.inl rfl | exact Or.inr rfl)) (pgs_cons (pg_name (i := 3) sc_law_right.nd rfl (by first | exact Or.inl rfl | exact Or.inr rfl)) pgs_nil))))
      (pss_cons (ps_if (PW.pt (pw_or (pt_not (pt_val (pe_callG (ok_law_values_right T) (hr.mono (by decide)) hG (by rfl) T.law_values_right.g T.law_values_right.F.kp T.law_values_right.b pass0 (pa_cons (pv 2) (pa_cons (pv 3) pa_nil))))) (pw_or (pt_not (pt_val (pe_callG (ok_law_states_right T) (hr.mono (by decide)) hG (by rfl) T.law_states_right.g T.law_states_right.F.kp T.law_states_right.b pass0 (pa_cons (pv 2) (pa_cons (pv 3) pa_nil))))) (pw_or1 (pt_not (pt_val (pe_call (ok_law_each_right T) (hr.mono (by decide)) (by rfl) T.law_each_right.g T.law_each_right.F.kp T.law_each_right.b .nil pass0 (pa_cons (pv 2) pa_nil)))))))) (pss_one ps_never) pss_nil)
      (pss_one (ps_if (pt_cmpR (op_neD (u64 hr)) (pe_lc (own := [("_law_way", 4)]) (g := gName 4) (tt := tYes) rfl sc_law_right.nd (pi_range1 rfl T.b_range (pa_cons pe_int pa_nil))
          (blkOk_by (own := [("_law_way", 4)]) (N := ["_law_pot_here", "_law_turn", "_law_mine", "_law_yours", "_law_way"]) (sc := defScope s_law_right) (by decide +kernel))
          (fun _ _ _ _ _ => pg_name (i := 4) sc_law_right.nd rfl (by first | exact Or.inl rfl | exact Or.inr rfl)) (fun _ _ _ _ _ => pts_nil)
          (fun _ _ _ _ _ => (pe_callB (call_reprDsK (K := K) rfl hr hG) (by rfl) T.b_repr (by decide +kernel) (pa_cons (pe_call (ok_law_caught T) (hr.mono (by decide)) (by rfl) T.law_caught.g T.law_caught.F.kp T.law_caught.b .nil pass0 (pa_cons (pv 4) (pa_cons (pv 2) pa_nil))) pa_nil)))) (pe_lc (own := [("_law_way", 4)]) (g := gName 4) (tt := tYes) rfl sc_law_right.nd (pi_range1 rfl T.b_range (pa_cons pe_int pa_nil))
          (blkOk_by (own := [("_law_way", 4)]) (N := ["_law_pot_here", "_law_turn", "_law_mine", "_law_yours", "_law_way"]) (sc := defScope s_law_right) (by decide +kernel))
          (fun _ _ _ _ _ => pg_name (i := 4) sc_law_right.nd rfl (by first | exact Or.inl rfl | exact Or.inr rfl)) (fun _ _ _ _ _ => pts_nil)
          (fun _ _ _ _ _ => (pe_callB (call_reprDsK (K := K) rfl hr hG) (by rfl) T.b_repr (by decide +kernel) (pa_cons (pe_lst (pa_cons (pv 4) (pa_cons (pv 2) pa_nil))) pa_nil)))) (nomark _)) (pss_one ps_never) pss_nil)))))
      (pss_one (ps_ret pe_bl)), ?_⟩
    try dsimp only [cxOf]
    refine ⟨6, rfl, by decide, by decide, ?_⟩
    refine for_it walk_range (fun i σ H' => ∃ s1 s2 s3, σ = [some (.ref a), s1, s2, s3, none] ∧ Pot H' a ∧ Off a H H') ⟨none, none, none, rfl, hp, Off.refl a H⟩ (fun _ _ _ _ _ => trivial) (fun i x σ H1 H2 hi p y => ?_) (fun σ H1 p => ?_)
    · obtain ⟨s1, s2, s3, rfl, hp1, o1⟩ := p
      obtain ⟨rfl, rfl⟩ := y
      refine ⟨_, rfl, _, rfl, a, i, congrArg (fun z => [V.ref a, V.int z]) (Int.zero_add _), hp1, by show i < 10; omega, fun H3 v d hd hp3 o3 dp3 => ?_⟩
      refine ⟨_, rfl, _, rfl, _, _, rfl, rfl, a, i + 3, congrArg (fun z => [V.ref a, V.int z]) (by omega), hp3, by show i + 3 < 10; omega, fun H4 u e he hp4 o4 dp4 => ?_⟩
      refine ⟨sz (by show 2 ≤ 100000; decide), fun Tp nT => ?_⟩
      have wd := wd_forms (show i < 10 by omega) hd
      have we := wd_forms (show i + 3 < 10 by omega) he
      have hv : DpD K H4 v d := DpD.same (del_same H4 a) (DpD.same (off_del o4) dp3)
      have hu : DpD K H4 u e := DpD.same (del_same H4 a) dp4
      have S4 := same_upd (o := .tup [v, u]) nT
      have gT := upd_same (H := H4) (a := Tp) (o := .tup [v, u])
      have O4 := (o1.trans o3).trans o4
      generalize upd H4 Tp (.tup [v, u]) = H5 at *
      have hv := DpD.same S4 hv
      have hu := DpD.same S4 hu
      have hp5 := hp4.same S4
      have O5 := O4.trans (Off.of S4)
      clear dp3 dp4 o1 o3 o4 hp1 hp3 hp4 O4 S4
      refine ⟨Tp, _, rfl, .inl (.inl gT), rfl, _, _, rfl, _, _, rfl, rfl, ?_⟩
      try dsimp only [gName]
      refine ⟨_, rfl, _, rfl, v, u, d, e, rfl, hv, hu, wd, we, fun H6 s6 => ⟨true, rfl, iteF ?_⟩⟩
      refine ⟨_, rfl, _, rfl, v, u, d, e, rfl, DpD.same s6 hv, DpD.same s6 hu, wd, we, fun H7 s7 => ⟨true, rfl, iteF ?_⟩⟩
      refine ⟨_, rfl, v, rfl, fun H8 s8 => ⟨true, rfl, iteF ?_⟩⟩
      have S8 := (s6.trans s7).trans s8
      have hv := DpD.same S8 hv
      have hp8 := hp5.same S8
      have O8 := O5.trans (Off.of S8)
      clear hu we he s6 s7 s8 S8 hp5 O5 gT nT
      dsimp only [tNext]
      have W := fun {j : Nat} (hj : j < 8) => shown_of1 (ds := [.int j, d]) (wd_two (wd_int hj) wd fun x hx => by simpa using hx) (by show 2 ≤ 36; decide)
      refine ⟨8, rfl, by decide, by decide, fun D nD => ?_⟩
      refine lc_gen walk_range (Same H8) (fun j acc => acc = (shL d j).map V.str) (sz (by decide)) (fun j acc e => by rw [e]; unfold shL; rw [List.length_map, List.length_map, List.length_range]; exact Nat.le_refl _) rfl (same_upd nD) (fun _ _ h => same_up h nD) (fun _ _ => trivial) (fun j x Ha Hb acc C N hj r hD ha y c nn => ?_) (fun Ha ys r hD ha => ?_)
      · obtain ⟨rfl, rfl⟩ := y
        have hj8 : j < 8 := hj
        refine ⟨rfl, yes_te ⟨_, rfl, _, rfl, j, v, congrArg (fun z => [V.int z, v]) (Int.zero_add _), hj8, fun Hc pc sc nc gc => ?_⟩⟩
        refine ⟨pc, _, [.int j, d], rfl, .inl (.inl gc), .cons (.data (.int _)) (.cons (DpD.same (r.trans sc) hv) .nil), (W hj8).1, (W hj8).2.1, (W hj8).2.2, ?_⟩
        refine c _ _ (r.trans sc) (sc _ _ hD) ?_
        rw [ha]
        unfold shL
        rw [List.range_succ, List.map_append, List.map_append]
        rfl
      subst ha
      refine ⟨8, rfl, by decide, by decide, fun D2 nD2 => ?_⟩
      refine lc_gen walk_range (Same Ha) (fun j acc => acc = (shL d j).map V.str) (sz (by decide)) (fun j acc e => by rw [e]; unfold shL; rw [List.length_map, List.length_map, List.length_range]; exact Nat.le_refl _) rfl (same_upd nD2) (fun _ _ h => same_up h nD2) (fun _ _ => trivial) (fun j x Hb Hc acc C N hj r2 hD2 ha y c nn => ?_) (fun Hb ys r2 hD2 ha => ?_)
      · obtain ⟨rfl, rfl⟩ := y
        have hj8 : j < 8 := hj
        refine ⟨rfl, yes_te ⟨_, rfl, _, rfl, sz (by show 2 ≤ 100000; decide), fun pc nc => ?_⟩⟩
        have sc := same_upd (o := .lst [.int ((0 : Int) + (j : Nat)), v]) nc
        have gc := upd_same (H := Hc) (a := pc) (o := .lst [.int ((0 : Int) + (j : Nat)), v])
        generalize upd Hc pc (.lst [.int ((0 : Int) + (j : Nat)), v]) = Hd at *
        rw [Int.zero_add] at gc
        refine ⟨pc, _, [.int j, d], rfl, .inl (.inl gc), .cons (.data (.int _)) (.cons (DpD.same ((r.trans r2).trans sc) hv) .nil), (W hj8).1, (W hj8).2.1, (W hj8).2.2, ?_⟩
        refine c _ _ (r2.trans sc) (sc _ _ hD2) ?_
        rw [ha]
        unfold shL
        rw [List.range_succ, List.map_append, List.map_append]
        rfl
      subst ha
      have dp : ∀ {G : Hp} {p : Addr}, G p = some (.lst ((shL d 8).map V.str)) → Dp K G (.ref p) (.list ((shL d 8).map PyData.str)) := fun {G p} h => .lst (.inl (.inl h)) (dpAll_str _)
      have hi6 : i < 6 := hi
      refine ⟨_, _, dp (r2 _ _ hD), dp hD2, shL_shaped hi6 hd, shL_shaped hi6 hd, _, rfl, ite_f (by rw [eqv_strs]; rfl) ?_⟩
      exact ⟨_, _, _, rfl, hp8.same (r.trans r2), O8.trans (Off.of (r.trans r2))⟩
    · obtain ⟨s1, s2, s3, rfl, hp1, o1⟩ := p
      exact q _ hp1 o1
end
end Lw
namespace Lw
open PySem PySem.Spec PyProof.Rows L3
open L2 hiding del del_same del_ne
section
variable {w : World} {K : PySem.W.Frag} {mg : Str → Option Value} {base : Heap}
/-! ### law -/
theorem sq_off {a p : Addr} {xs : List V} {H H3 H' : Hp} (h : SqL K H a xs) (n : H p = none) (s : Same H H3) (o : Off p H3 H') : SqL K H' a xs := by
  rcases h with (h | ⟨o', h⟩) | h
  · exact .inl (.inl (o _ _ (s _ _ h) (ne_of_none h n)))
  · exact .inl (.inr ⟨o', o _ _ (s _ _ h) (ne_of_none h n)⟩)
  · exact .inr h
def spLaw (K : PySem.W.Frag) : Sp := fun vs H Q _ => ∃ (a : Addr) (ns : List Int), vs = [.ref a] ∧ SqL K H a (ns.map V.int) ∧ ∀ H', Q (.bl true) H'
theorem ok_law (T : All K mg) : FnOkG PW w K mg base CX0 6 T.f_law T.d_law ["_law_script"] (spLaw K) := by
  refine okG T.law.F sc_law (fun vs H Q E h => ?_) (fun cdv A outer s H vs Q E hr hG h => ?_)
  · obtain ⟨a, ns, rfl, _⟩ := h
    rfl
  · obtain ⟨a, ns, rfl, hS, q⟩ := h
    refine ⟨_, pss_one (ps_ret (pe_callB (cr_all rfl) (by rfl) T.b_all PyProof.Rows.boot_all (pa_cons (pe_lc (own := [("_law_k", 1)]) (g := gName 1) (tt := tYes) rfl sc_law.nd (pi_range1 rfl T.b_range (pa_cons (pe_callB (call_max2 rfl) (by rfl) T.b_max PyProof.Rows.boot_max (pa_cons pe_int (pa_cons (pe_callB (call_min2 rfl) (by rfl) T.b_min PyProof.Rows.boot_min (pa_cons pe_int (pa_cons (pe_callB call_len_seq (by rfl) T.b_len PySem.boot_len (pa_cons (pv 0) pa_nil)) pa_nil))) pa_nil))) pa_nil))
          (blkOk_by (own := [("_law_k", 1)]) (N := ["_law_script", "_law_k"]) (sc := defScope s_law) (by decide +kernel))
          (fun _ _ _ _ _ => pg_name (i := 1) sc_law.nd rfl (by first | exact Or.inl rfl | exact Or.inr rfl)) (fun _ _ _ _ _ => pts_nil)
          (fun _ _ _ _ _ => (pe_callG (ok_law_right T) (hr.mono (by decide)) hG (by rfl) T.law_right.g T.law_right.F.kp T.law_right.b pass0 (pa_cons (pe_call (ok_law_pot T) (hr.mono (by decide)) (by rfl) T.law_pot.g T.law_pot.F.kp T.law_pot.b .nil pass0 (pa_cons (pv 0) (pa_cons (pv 1) pa_nil))) pa_nil)))) pa_nil))), ?_⟩
    refine ⟨_, rfl, a, _, rfl, .inl hS, _, _, rfl, _, _, rfl, ?_⟩
    refine ⟨_, rfl, ?_, ?_, fun D nD => ?_⟩
    · split <;> split <;> omega
    · split <;> split <;> omega
    have hn : ((if (if ((ns.map V.int).length : Int) < 3 then ((ns.map V.int).length : Int) else 3) > 1 then (if ((ns.map V.int).length : Int) < 3 then ((ns.map V.int).length : Int) else 3) else 1) : Int).toNat ≤ 3 := by
      split <;> split <;> omega
    have hAD : (∀ H', SqL K H' a (ns.map V.int)) ∨ a ≠ D := by
      rcases hS with (h | ⟨o', h⟩) | h
      · exact .inr (ne_of_none h nD)
      · exact .inr (ne_of_none h nD)
      · exact .inl fun H' => .inr h
    refine lc_gen2 walk_range (fun H' => SqL K H' a (ns.map V.int)) (fun i acc => acc = List.replicate i (.bl true)) ?_ (fun i acc e => by rw [e]; simp) rfl
      (sq_new hS nD) (fun H' acc acc' hD r => hAD.elim (fun h => h _) (fun n => sq_put r n)) (fun _ _ => trivial) (fun i x H7 H8 acc C N hi r hD ha y c n => ?_) (fun H7 xs r hD ha => ?_)
    · rw [sizeLine_eq]
      exact Nat.le_trans hn (by decide)
    · obtain ⟨rfl, rfl⟩ := y
      have hi2 : i < 3 := Nat.lt_of_lt_of_le hi hn
      refine ⟨rfl, yes_te ?_⟩
      refine ⟨_, rfl, _, rfl, a, ns, i, congrArg (fun z => [V.ref a, V.int z]) (Int.zero_add _), r, by omega, fun H9 p s9 n9 hp9 => ?_⟩
      refine ⟨p, rfl, hp9, fun H10 _ o10 => ?_⟩
      refine c _ _ (sq_off r n9 s9 o10) (o10 _ _ (s9 _ _ hD) (ne_of_none hD n9)) ?_
      rw [ha, List.replicate_succ']
    · subst ha
      refine ⟨D, List.replicate _ true, rfl, .inl (.inl (by rw [hD, List.map_replicate])), ?_⟩
      rw [all_rep]
      exact q _
theorem fin {w : World} {K : PySem.W.Frag} {mg mb : Str → Option Value} {fa fl a : Addr} {s₁ : Shared} {vs : List Value} {ns : List Int}
    (KX : K.In s₁.heap) (hns : s₁.heap.Ns mainGlobals mg) (hb : s₁.heap.Ns builtinsNs mb) (hbb : ∀ x : Str, x ≠ "__name__" → mb x = bootBuiltins x) (hlim : s₁.heap.NoLimit) (hg : s₁.gens = #[])
    (hbm : ∃ (bm : Addr) (ob : Obj), mg "__builtins__" = some (.ref bm) ∧ bm ≠ builtinsNs ∧ s₁.heap.get? bm = some ob ∧ ob.cls = .type "module" ∧ ob.dict = some builtinsNs ∧ ob.data = .plain)
    (ha : s₁.heap.get? a = some { cls := .type "list", data := .seq vs.toArray }) (hi : IntsAre vs ns) (hl : ns.length ≤ sizeLine) (hmg : mg "law" = some (.ref fa))
    (hall : ∃ T : All K mg, T.f_law = fl) :
    codeAny (model PW w) callerA (.call (.ref fa) ⟨[.ref a], []⟩) (fun r s' => r = .ok (.ret (.bool true)) ∧ OldK s₁.heap s'.heap ∧ s'.os = s₁.os ∧ AllBare s'.gens) s₁ := by
  obtain ⟨T, _⟩ := hall
  have e : T.f_law = fa := by
    have h := T.law.g
    rw [hmg] at h
    exact (Value.ref.inj (Option.some.inj h)).symm
  rw [← e]
  refine law_callG (cs := []) (k := 6) (sp := spLaw K) KX hns hb hbb hlim hg (fun p hp => nomatch hp) (fun p hp => nomatch hp) (fun p hp => nomatch hp) hbm ha hi hl ⟨rfl, by decide, by decide⟩ (fun base hK hM TB => ok_law T) T.law.b (fun H hH hS => ?_)
  exact ⟨a, ns, rfl, hS, fun H' => rfl⟩
end
end Lw
namespace Lw
open PySem PySem.Spec PyProof.Rows L2 L3
theorem all_mk {K : PySem.W.Frag} {h : Heap} {mg : Str → Option Value} (X : K.In h) (G : h.Ns mainGlobals mg)
    {f_law_pot : Addr} {oc_law_pot kV_law_pot dc_law_pot pm_law_pot cd_law_pot ct_law_pot : Value} {od_law_pot an_law_pot : Option Addr} {sl_law_pot : Array (Option Value)}
    (a_law_pot : PySem.W.nsIn K mainGlobals "_law_pot" = some (some (.ref f_law_pot))) (l_law_pot : K.lookup f_law_pot = some ⟨oc_law_pot, od_law_pot, .func (PySem.W.fnOf "_law_pot" "_law_pot" (defArgs s_law_pot) (defBody s_law_pot) (defScope s_law_pot) .none kV_law_pot dc_law_pot pm_law_pot an_law_pot cd_law_pot ct_law_pot), sl_law_pot⟩) (e_law_pot : PySem.W.codeIn K cd_law_pot "_law_pot" = true) (k_law_pot : PySem.W.keepIn K (.ref f_law_pot) = true)
    {f_law_draw : Addr} {oc_law_draw kV_law_draw dc_law_draw pm_law_draw cd_law_draw ct_law_draw : Value} {od_law_draw an_law_draw : Option Addr} {sl_law_draw : Array (Option Value)}
    (a_law_draw : PySem.W.nsIn K mainGlobals "_law_draw" = some (some (.ref f_law_draw))) (l_law_draw : K.lookup f_law_draw = some ⟨oc_law_draw, od_law_draw, .func (PySem.W.fnOf "_law_draw" "_law_draw" (defArgs s_law_draw) (defBody s_law_draw) (defScope s_law_draw) .none kV_law_draw dc_law_draw pm_law_draw an_law_draw cd_law_draw ct_law_draw), sl_law_draw⟩) (e_law_draw : PySem.W.codeIn K cd_law_draw "_law_draw" = true) (k_law_draw : PySem.W.keepIn K (.ref f_law_draw) = true)
    {f_law_pick : Addr} {oc_law_pick kV_law_pick dc_law_pick pm_law_pick cd_law_pick ct_law_pick : Value} {od_law_pick an_law_pick : Option Addr} {sl_law_pick : Array (Option Value)}
    (a_law_pick : PySem.W.nsIn K mainGlobals "_law_pick" = some (some (.ref f_law_pick))) (l_law_pick : K.lookup f_law_pick = some ⟨oc_law_pick, od_law_pick, .func (PySem.W.fnOf "_law_pick" "_law_pick" (defArgs s_law_pick) (defBody s_law_pick) (defScope s_law_pick) .none kV_law_pick dc_law_pick pm_law_pick an_law_pick cd_law_pick ct_law_pick), sl_law_pick⟩) (e_law_pick : PySem.W.codeIn K cd_law_pick "_law_pick" = true) (k_law_pick : PySem.W.keepIn K (.ref f_law_pick) = true)
    {f_law_grounds : Addr} {oc_law_grounds kV_law_grounds dc_law_grounds pm_law_grounds cd_law_grounds ct_law_grounds : Value} {od_law_grounds an_law_grounds : Option Addr} {sl_law_grounds : Array (Option Value)}
    (a_law_grounds : PySem.W.nsIn K mainGlobals "_law_grounds" = some (some (.ref f_law_grounds))) (l_law_grounds : K.lookup f_law_grounds = some ⟨oc_law_grounds, od_law_grounds, .func (PySem.W.fnOf "_law_grounds" "_law_grounds" (defArgs s_law_grounds) (defBody s_law_grounds) (defScope s_law_grounds) .none kV_law_grounds dc_law_grounds pm_law_grounds an_law_grounds cd_law_grounds ct_law_grounds), sl_law_grounds⟩) (e_law_grounds : PySem.W.codeIn K cd_law_grounds "_law_grounds" = true) (k_law_grounds : PySem.W.keepIn K (.ref f_law_grounds) = true)
    {f_law_ground : Addr} {oc_law_ground kV_law_ground dc_law_ground pm_law_ground cd_law_ground ct_law_ground : Value} {od_law_ground an_law_ground : Option Addr} {sl_law_ground : Array (Option Value)}
    (a_law_ground : PySem.W.nsIn K mainGlobals "_law_ground" = some (some (.ref f_law_ground))) (l_law_ground : K.lookup f_law_ground = some ⟨oc_law_ground, od_law_ground, .func (PySem.W.fnOf "_law_ground" "_law_ground" (defArgs s_law_ground) (defBody s_law_ground) (defScope s_law_ground) .none kV_law_ground dc_law_ground pm_law_ground an_law_ground cd_law_ground ct_law_ground), sl_law_ground⟩) (e_law_ground : PySem.W.codeIn K cd_law_ground "_law_ground" = true) (k_law_ground : PySem.W.keepIn K (.ref f_law_ground) = true)
    {f_law_thing : Addr} {oc_law_thing kV_law_thing dc_law_thing pm_law_thing cd_law_thing ct_law_thing : Value} {od_law_thing an_law_thing : Option Addr} {sl_law_thing : Array (Option Value)}
    (a_law_thing : PySem.W.nsIn K mainGlobals "_law_thing" = some (some (.ref f_law_thing))) (l_law_thing : K.lookup f_law_thing = some ⟨oc_law_thing, od_law_thing, .func (PySem.W.fnOf "_law_thing" "_law_thing" (defArgs s_law_thing) (defBody s_law_thing) (defScope s_law_thing) .none kV_law_thing dc_law_thing pm_law_thing an_law_thing cd_law_thing ct_law_thing), sl_law_thing⟩) (e_law_thing : PySem.W.codeIn K cd_law_thing "_law_thing" = true) (k_law_thing : PySem.W.keepIn K (.ref f_law_thing) = true)
    {f_law_by_value : Addr} {oc_law_by_value kV_law_by_value dc_law_by_value pm_law_by_value cd_law_by_value ct_law_by_value : Value} {od_law_by_value an_law_by_value : Option Addr} {sl_law_by_value : Array (Option Value)}
    (a_law_by_value : PySem.W.nsIn K mainGlobals "_law_by_value" = some (some (.ref f_law_by_value))) (l_law_by_value : K.lookup f_law_by_value = some ⟨oc_law_by_value, od_law_by_value, .func (PySem.W.fnOf "_law_by_value" "_law_by_value" (defArgs s_law_by_value) (defBody s_law_by_value) (defScope s_law_by_value) .none kV_law_by_value dc_law_by_value pm_law_by_value an_law_by_value cd_law_by_value ct_law_by_value), sl_law_by_value⟩) (e_law_by_value : PySem.W.codeIn K cd_law_by_value "_law_by_value" = true) (k_law_by_value : PySem.W.keepIn K (.ref f_law_by_value) = true)
    {f_law_by_named_value : Addr} {oc_law_by_named_value kV_law_by_named_value dc_law_by_named_value pm_law_by_named_value cd_law_by_named_value ct_law_by_named_value : Value} {od_law_by_named_value an_law_by_named_value : Option Addr} {sl_law_by_named_value : Array (Option Value)}
    (a_law_by_named_value : PySem.W.nsIn K mainGlobals "_law_by_named_value" = some (some (.ref f_law_by_named_value))) (l_law_by_named_value : K.lookup f_law_by_named_value = some ⟨oc_law_by_named_value, od_law_by_named_value, .func (PySem.W.fnOf "_law_by_named_value" "_law_by_named_value" (defArgs s_law_by_named_value) (defBody s_law_by_named_value) (defScope s_law_by_named_value) .none kV_law_by_named_value dc_law_by_named_value pm_law_by_named_value an_law_by_named_value cd_law_by_named_value ct_law_by_named_value), sl_law_by_named_value⟩) (e_law_by_named_value : PySem.W.codeIn K cd_law_by_named_value "_law_by_named_value" = true) (k_law_by_named_value : PySem.W.keepIn K (.ref f_law_by_named_value) = true)
    {f_law_by_position : Addr} {oc_law_by_position kV_law_by_position dc_law_by_position pm_law_by_position cd_law_by_position ct_law_by_position : Value} {od_law_by_position an_law_by_position : Option Addr} {sl_law_by_position : Array (Option Value)}
    (a_law_by_position : PySem.W.nsIn K mainGlobals "_law_by_position" = some (some (.ref f_law_by_position))) (l_law_by_position : K.lookup f_law_by_position = some ⟨oc_law_by_position, od_law_by_position, .func (PySem.W.fnOf "_law_by_position" "_law_by_position" (defArgs s_law_by_position) (defBody s_law_by_position) (defScope s_law_by_position) .none kV_law_by_position dc_law_by_position pm_law_by_position an_law_by_position cd_law_by_position ct_law_by_position), sl_law_by_position⟩) (e_law_by_position : PySem.W.codeIn K cd_law_by_position "_law_by_position" = true) (k_law_by_position : PySem.W.keepIn K (.ref f_law_by_position) = true)
    {f_law_by_named_position : Addr} {oc_law_by_named_position kV_law_by_named_position dc_law_by_named_position pm_law_by_named_position cd_law_by_named_position ct_law_by_named_position : Value} {od_law_by_named_position an_law_by_named_position : Option Addr} {sl_law_by_named_position : Array (Option Value)}
    (a_law_by_named_position : PySem.W.nsIn K mainGlobals "_law_by_named_position" = some (some (.ref f_law_by_named_position))) (l_law_by_named_position : K.lookup f_law_by_named_position = some ⟨oc_law_by_named_position, od_law_by_named_position, .func (PySem.W.fnOf "_law_by_named_position" "_law_by_named_position" (defArgs s_law_by_named_position) (defBody s_law_by_named_position) (defScope s_law_by_named_position) .none kV_law_by_named_position dc_law_by_named_position pm_law_by_named_position an_law_by_named_position cd_law_by_named_position ct_law_by_named_position), sl_law_by_named_position⟩) (e_law_by_named_position : PySem.W.codeIn K cd_law_by_named_position "_law_by_named_position" = true) (k_law_by_named_position : PySem.W.keepIn K (.ref f_law_by_named_position) = true)
    {f_law_of_states : Addr} {oc_law_of_states kV_law_of_states dc_law_of_states pm_law_of_states cd_law_of_states ct_law_of_states : Value} {od_law_of_states an_law_of_states : Option Addr} {sl_law_of_states : Array (Option Value)}
    (a_law_of_states : PySem.W.nsIn K mainGlobals "_law_of_states" = some (some (.ref f_law_of_states))) (l_law_of_states : K.lookup f_law_of_states = some ⟨oc_law_of_states, od_law_of_states, .func (PySem.W.fnOf "_law_of_states" "_law_of_states" (defArgs s_law_of_states) (defBody s_law_of_states) (defScope s_law_of_states) .none kV_law_of_states dc_law_of_states pm_law_of_states an_law_of_states cd_law_of_states ct_law_of_states), sl_law_of_states⟩) (e_law_of_states : PySem.W.codeIn K cd_law_of_states "_law_of_states" = true) (k_law_of_states : PySem.W.keepIn K (.ref f_law_of_states) = true)
    {f_law_each : Addr} {oc_law_each kV_law_each dc_law_each pm_law_each cd_law_each ct_law_each : Value} {od_law_each an_law_each : Option Addr} {sl_law_each : Array (Option Value)}
    (a_law_each : PySem.W.nsIn K mainGlobals "_law_each" = some (some (.ref f_law_each))) (l_law_each : K.lookup f_law_each = some ⟨oc_law_each, od_law_each, .func (PySem.W.fnOf "_law_each" "_law_each" (defArgs s_law_each) (defBody s_law_each) (defScope s_law_each) .none kV_law_each dc_law_each pm_law_each an_law_each cd_law_each ct_law_each), sl_law_each⟩) (e_law_each : PySem.W.codeIn K cd_law_each "_law_each" = true) (k_law_each : PySem.W.keepIn K (.ref f_law_each) = true)
    {f_law_marks : Addr} {oc_law_marks kV_law_marks dc_law_marks pm_law_marks cd_law_marks ct_law_marks : Value} {od_law_marks an_law_marks : Option Addr} {sl_law_marks : Array (Option Value)}
    (a_law_marks : PySem.W.nsIn K mainGlobals "_law_marks" = some (some (.ref f_law_marks))) (l_law_marks : K.lookup f_law_marks = some ⟨oc_law_marks, od_law_marks, .func (PySem.W.fnOf "_law_marks" "_law_marks" (defArgs s_law_marks) (defBody s_law_marks) (defScope s_law_marks) .none kV_law_marks dc_law_marks pm_law_marks an_law_marks cd_law_marks ct_law_marks), sl_law_marks⟩) (e_law_marks : PySem.W.codeIn K cd_law_marks "_law_marks" = true) (k_law_marks : PySem.W.keepIn K (.ref f_law_marks) = true)
    {f_law_each_right : Addr} {oc_law_each_right kV_law_each_right dc_law_each_right pm_law_each_right cd_law_each_right ct_law_each_right : Value} {od_law_each_right an_law_each_right : Option Addr} {sl_law_each_right : Array (Option Value)}
    (a_law_each_right : PySem.W.nsIn K mainGlobals "_law_each_right" = some (some (.ref f_law_each_right))) (l_law_each_right : K.lookup f_law_each_right = some ⟨oc_law_each_right, od_law_each_right, .func (PySem.W.fnOf "_law_each_right" "_law_each_right" (defArgs s_law_each_right) (defBody s_law_each_right) (defScope s_law_each_right) .none kV_law_each_right dc_law_each_right pm_law_each_right an_law_each_right cd_law_each_right ct_law_each_right), sl_law_each_right⟩) (e_law_each_right : PySem.W.codeIn K cd_law_each_right "_law_each_right" = true) (k_law_each_right : PySem.W.keepIn K (.ref f_law_each_right) = true)
    {f_law_values_right : Addr} {oc_law_values_right kV_law_values_right dc_law_values_right pm_law_values_right cd_law_values_right ct_law_values_right : Value} {od_law_values_right an_law_values_right : Option Addr} {sl_law_values_right : Array (Option Value)}
    (a_law_values_right : PySem.W.nsIn K mainGlobals "_law_values_right" = some (some (.ref f_law_values_right))) (l_law_values_right : K.lookup f_law_values_right = some ⟨oc_law_values_right, od_law_values_right, .func (PySem.W.fnOf "_law_values_right" "_law_values_right" (defArgs s_law_values_right) (defBody s_law_values_right) (defScope s_law_values_right) .none kV_law_values_right dc_law_values_right pm_law_values_right an_law_values_right cd_law_values_right ct_law_values_right), sl_law_values_right⟩) (e_law_values_right : PySem.W.codeIn K cd_law_values_right "_law_values_right" = true) (k_law_values_right : PySem.W.keepIn K (.ref f_law_values_right) = true)
    {f_law_states_right : Addr} {oc_law_states_right kV_law_states_right dc_law_states_right pm_law_states_right cd_law_states_right ct_law_states_right : Value} {od_law_states_right an_law_states_right : Option Addr} {sl_law_states_right : Array (Option Value)}
    (a_law_states_right : PySem.W.nsIn K mainGlobals "_law_states_right" = some (some (.ref f_law_states_right))) (l_law_states_right : K.lookup f_law_states_right = some ⟨oc_law_states_right, od_law_states_right, .func (PySem.W.fnOf "_law_states_right" "_law_states_right" (defArgs s_law_states_right) (defBody s_law_states_right) (defScope s_law_states_right) .none kV_law_states_right dc_law_states_right pm_law_states_right an_law_states_right cd_law_states_right ct_law_states_right), sl_law_states_right⟩) (e_law_states_right : PySem.W.codeIn K cd_law_states_right "_law_states_right" = true) (k_law_states_right : PySem.W.keepIn K (.ref f_law_states_right) = true)
    {f_law_thrown : Addr} {oc_law_thrown kV_law_thrown dc_law_thrown pm_law_thrown cd_law_thrown ct_law_thrown : Value} {od_law_thrown an_law_thrown : Option Addr} {sl_law_thrown : Array (Option Value)}
    (a_law_thrown : PySem.W.nsIn K mainGlobals "_law_thrown" = some (some (.ref f_law_thrown))) (l_law_thrown : K.lookup f_law_thrown = some ⟨oc_law_thrown, od_law_thrown, .func (PySem.W.fnOf "_law_thrown" "_law_thrown" (defArgs s_law_thrown) (defBody s_law_thrown) (defScope s_law_thrown) .none kV_law_thrown dc_law_thrown pm_law_thrown an_law_thrown cd_law_thrown ct_law_thrown), sl_law_thrown⟩) (e_law_thrown : PySem.W.codeIn K cd_law_thrown "_law_thrown" = true) (k_law_thrown : PySem.W.keepIn K (.ref f_law_thrown) = true)
    {f_law_caught : Addr} {oc_law_caught kV_law_caught dc_law_caught pm_law_caught cd_law_caught ct_law_caught : Value} {od_law_caught an_law_caught : Option Addr} {sl_law_caught : Array (Option Value)}
    (a_law_caught : PySem.W.nsIn K mainGlobals "_law_caught" = some (some (.ref f_law_caught))) (l_law_caught : K.lookup f_law_caught = some ⟨oc_law_caught, od_law_caught, .func (PySem.W.fnOf "_law_caught" "_law_caught" (defArgs s_law_caught) (defBody s_law_caught) (defScope s_law_caught) .none kV_law_caught dc_law_caught pm_law_caught an_law_caught cd_law_caught ct_law_caught), sl_law_caught⟩) (e_law_caught : PySem.W.codeIn K cd_law_caught "_law_caught" = true) (k_law_caught : PySem.W.keepIn K (.ref f_law_caught) = true)
    {f_law_right : Addr} {oc_law_right kV_law_right dc_law_right pm_law_right cd_law_right ct_law_right : Value} {od_law_right an_law_right : Option Addr} {sl_law_right : Array (Option Value)}
    (a_law_right : PySem.W.nsIn K mainGlobals "_law_right" = some (some (.ref f_law_right))) (l_law_right : K.lookup f_law_right = some ⟨oc_law_right, od_law_right, .func (PySem.W.fnOf "_law_right" "_law_right" (defArgs s_law_right) (defBody s_law_right) (defScope s_law_right) .none kV_law_right dc_law_right pm_law_right an_law_right cd_law_right ct_law_right), sl_law_right⟩) (e_law_right : PySem.W.codeIn K cd_law_right "_law_right" = true) (k_law_right : PySem.W.keepIn K (.ref f_law_right) = true)
    {f_law : Addr} {oc_law kV_law dc_law pm_law cd_law ct_law : Value} {od_law an_law : Option Addr} {sl_law : Array (Option Value)}
    (a_law : PySem.W.nsIn K mainGlobals "law" = some (some (.ref f_law))) (l_law : K.lookup f_law = some ⟨oc_law, od_law, .func (PySem.W.fnOf "law" "law" (defArgs s_law) (defBody s_law) (defScope s_law) .none kV_law dc_law pm_law an_law cd_law ct_law), sl_law⟩) (e_law : PySem.W.codeIn K cd_law "law" = true) (k_law : PySem.W.keepIn K (.ref f_law) = true)
    {C_InvalidText fi_InvalidText pr_InvalidText N_InvalidText cda_InvalidText cc_InvalidText : Addr} {nm_InvalidText q_InvalidText : Str} {bs_InvalidText : List Value} {sn_InvalidText : List Str} {sub_InvalidText : List Value} {ab_InvalidText : Bool} {col_InvalidText : Option Bool} {dd_InvalidText : Option Addr} {k0_InvalidText k1_InvalidText k2_InvalidText k3_InvalidText k5_InvalidText : Option Value} {kV_InvalidText doc_InvalidText pm_InvalidText ct_InvalidText oc_InvalidText ccl_InvalidText cl_InvalidText : Value} {an_InvalidText od_InvalidText cdd_InvalidText cld_InvalidText : Option Addr} {osl_InvalidText ccs_InvalidText csl_InvalidText : Array (Option Value)} {vs_InvalidText : Array Value} {file_InvalidText : Str} {tf_InvalidText : Tok}
    (a_InvalidText : PySem.W.nsIn K mainGlobals "InvalidText" = some (some (.ref C_InvalidText))) (lc_InvalidText : K.lookup C_InvalidText = some (excClassObj nm_InvalidText q_InvalidText C_InvalidText N_InvalidText bs_InvalidText (.ref pr_InvalidText :: [.type "ValueError", .type "Exception", .type "BaseException", .type "object"]) true sn_InvalidText sub_InvalidText ab_InvalidText col_InvalidText dd_InvalidText k0_InvalidText k1_InvalidText k2_InvalidText k3_InvalidText k5_InvalidText "ValueError.__new__"))
    (ii_InvalidText : PySem.W.findIn K (.ref C_InvalidText) "__init__" = some (some (.ref fi_InvalidText))) (li_InvalidText : K.lookup fi_InvalidText = some ⟨oc_InvalidText, od_InvalidText, .func (PySem.W.ksFn "__init__" "InvalidText.__init__" (defArgs s_InvalidText_init) (defBody s_InvalidText_init) (defScope s_InvalidText_init) .none kV_InvalidText doc_InvalidText pm_InvalidText an_InvalidText (.ref cda_InvalidText) ct_InvalidText cc_InvalidText), osl_InvalidText⟩) (ei_InvalidText : PySem.W.codeIn K (.ref cda_InvalidText) "InvalidText.__init__" = true)
    (lk_InvalidText : K.lookup cda_InvalidText = some ⟨ccl_InvalidText, cdd_InvalidText, .fields vs_InvalidText, ccs_InvalidText⟩) (v2_InvalidText : vs_InvalidText[2]? = some (.str file_InvalidText tf_InvalidText)) (fl_InvalidText : ((PW.main.file : Str) == file_InvalidText) = true) (lcc_InvalidText : K.lookup cc_InvalidText = some ⟨cl_InvalidText, cld_InvalidText, .cell (some (.ref C_InvalidText)), csl_InvalidText⟩)
    (su_InvalidText : PySem.W.ks_superIn K C_InvalidText C_InvalidText "__init__" = some (some (.builtin "ValueError.__init__"))) (se_InvalidText : PySem.W.mroIn K C_InvalidText (.ref C_InvalidText) = some true) (sb_InvalidText : PySem.W.subIn K (.ref C_InvalidText) (.type "ValueError") = some true) (op_InvalidText : PySem.W.nsIn K cStatics "thirdparty.any" = some none) (tp_InvalidText : (PW.main.scope.names.lookup ("super" : Str)).isSome = false)
    (sa_InvalidText : PySem.W.findIn K (.ref C_InvalidText) "__setattr__" = some (some (.builtin "object.__setattr__"))) (ti_InvalidText : PySem.W.typeIn K (.ref fi_InvalidText) = some (.type "function")) (kc_InvalidText : PySem.W.keepIn K (.ref C_InvalidText) = true) (ex_InvalidText : PySem.W.subIn K (.ref C_InvalidText) (.type "BaseException") = some true) (ty_InvalidText : PySem.W.typeIn K (.ref C_InvalidText) = some (.type "type"))
    (ga_InvalidText : PySem.W.findIn K (.ref C_InvalidText) "__getattribute__" = some (some (.builtin "BaseException.__getattribute__"))) (gg_InvalidText : PySem.W.findIn K (.ref C_InvalidText) "__getattr__" = some none) (hdc_InvalidText : PySem.W.hasDictIn K C_InvalidText = true) (ss_InvalidText : PySem.W.subIn K (.ref C_InvalidText) (.ref C_InvalidText) = some true)
    (nf_InvalidText_value : PySem.W.findIn K (.ref C_InvalidText) "value" = some none)
    {C_InvalidLetters fi_InvalidLetters pr_InvalidLetters N_InvalidLetters cda_InvalidLetters cc_InvalidLetters : Addr} {nm_InvalidLetters q_InvalidLetters : Str} {bs_InvalidLetters : List Value} {sn_InvalidLetters : List Str} {sub_InvalidLetters : List Value} {ab_InvalidLetters : Bool} {col_InvalidLetters : Option Bool} {dd_InvalidLetters : Option Addr} {k0_InvalidLetters k1_InvalidLetters k2_InvalidLetters k3_InvalidLetters k5_InvalidLetters : Option Value} {kV_InvalidLetters doc_InvalidLetters pm_InvalidLetters ct_InvalidLetters oc_InvalidLetters ccl_InvalidLetters cl_InvalidLetters : Value} {an_InvalidLetters od_InvalidLetters cdd_InvalidLetters cld_InvalidLetters : Option Addr} {osl_InvalidLetters ccs_InvalidLetters csl_InvalidLetters : Array (Option Value)} {vs_InvalidLetters : Array Value} {file_InvalidLetters : Str} {tf_InvalidLetters : Tok}
    (a_InvalidLetters : PySem.W.nsIn K mainGlobals "InvalidLetters" = some (some (.ref C_InvalidLetters))) (lc_InvalidLetters : K.lookup C_InvalidLetters = some (excClassObj nm_InvalidLetters q_InvalidLetters C_InvalidLetters N_InvalidLetters bs_InvalidLetters (.ref pr_InvalidLetters :: [.type "ValueError", .type "Exception", .type "BaseException", .type "object"]) true sn_InvalidLetters sub_InvalidLetters ab_InvalidLetters col_InvalidLetters dd_InvalidLetters k0_InvalidLetters k1_InvalidLetters k2_InvalidLetters k3_InvalidLetters k5_InvalidLetters "ValueError.__new__"))
    (ii_InvalidLetters : PySem.W.findIn K (.ref C_InvalidLetters) "__init__" = some (some (.ref fi_InvalidLetters))) (li_InvalidLetters : K.lookup fi_InvalidLetters = some ⟨oc_InvalidLetters, od_InvalidLetters, .func (PySem.W.ksFn "__init__" "InvalidLetters.__init__" (defArgs s_InvalidLetters_init) (defBody s_InvalidLetters_init) (defScope s_InvalidLetters_init) .none kV_InvalidLetters doc_InvalidLetters pm_InvalidLetters an_InvalidLetters (.ref cda_InvalidLetters) ct_InvalidLetters cc_InvalidLetters), osl_InvalidLetters⟩) (ei_InvalidLetters : PySem.W.codeIn K (.ref cda_InvalidLetters) "InvalidLetters.__init__" = true)
    (lk_InvalidLetters : K.lookup cda_InvalidLetters = some ⟨ccl_InvalidLetters, cdd_InvalidLetters, .fields vs_InvalidLetters, ccs_InvalidLetters⟩) (v2_InvalidLetters : vs_InvalidLetters[2]? = some (.str file_InvalidLetters tf_InvalidLetters)) (fl_InvalidLetters : ((PW.main.file : Str) == file_InvalidLetters) = true) (lcc_InvalidLetters : K.lookup cc_InvalidLetters = some ⟨cl_InvalidLetters, cld_InvalidLetters, .cell (some (.ref C_InvalidLetters)), csl_InvalidLetters⟩)
    (su_InvalidLetters : PySem.W.ks_superIn K C_InvalidLetters C_InvalidLetters "__init__" = some (some (.builtin "ValueError.__init__"))) (se_InvalidLetters : PySem.W.mroIn K C_InvalidLetters (.ref C_InvalidLetters) = some true) (sb_InvalidLetters : PySem.W.subIn K (.ref C_InvalidLetters) (.type "ValueError") = some true) (op_InvalidLetters : PySem.W.nsIn K cStatics "thirdparty.any" = some none) (tp_InvalidLetters : (PW.main.scope.names.lookup ("super" : Str)).isSome = false)
    (sa_InvalidLetters : PySem.W.findIn K (.ref C_InvalidLetters) "__setattr__" = some (some (.builtin "object.__setattr__"))) (ti_InvalidLetters : PySem.W.typeIn K (.ref fi_InvalidLetters) = some (.type "function")) (kc_InvalidLetters : PySem.W.keepIn K (.ref C_InvalidLetters) = true) (ex_InvalidLetters : PySem.W.subIn K (.ref C_InvalidLetters) (.type "BaseException") = some true) (ty_InvalidLetters : PySem.W.typeIn K (.ref C_InvalidLetters) = some (.type "type"))
    (ga_InvalidLetters : PySem.W.findIn K (.ref C_InvalidLetters) "__getattribute__" = some (some (.builtin "BaseException.__getattribute__"))) (gg_InvalidLetters : PySem.W.findIn K (.ref C_InvalidLetters) "__getattr__" = some none) (hdc_InvalidLetters : PySem.W.hasDictIn K C_InvalidLetters = true) (ss_InvalidLetters : PySem.W.subIn K (.ref C_InvalidLetters) (.ref C_InvalidLetters) = some true)
    (nf_InvalidLetters_value : PySem.W.findIn K (.ref C_InvalidLetters) "value" = some none)
    {C_InvalidLetter fi_InvalidLetter pr_InvalidLetter N_InvalidLetter cda_InvalidLetter cc_InvalidLetter : Addr} {nm_InvalidLetter q_InvalidLetter : Str} {bs_InvalidLetter : List Value} {sn_InvalidLetter : List Str} {sub_InvalidLetter : List Value} {ab_InvalidLetter : Bool} {col_InvalidLetter : Option Bool} {dd_InvalidLetter : Option Addr} {k0_InvalidLetter k1_InvalidLetter k2_InvalidLetter k3_InvalidLetter k5_InvalidLetter : Option Value} {kV_InvalidLetter doc_InvalidLetter pm_InvalidLetter ct_InvalidLetter oc_InvalidLetter ccl_InvalidLetter cl_InvalidLetter : Value} {an_InvalidLetter od_InvalidLetter cdd_InvalidLetter cld_InvalidLetter : Option Addr} {osl_InvalidLetter ccs_InvalidLetter csl_InvalidLetter : Array (Option Value)} {vs_InvalidLetter : Array Value} {file_InvalidLetter : Str} {tf_InvalidLetter : Tok}
    (a_InvalidLetter : PySem.W.nsIn K mainGlobals "InvalidLetter" = some (some (.ref C_InvalidLetter))) (lc_InvalidLetter : K.lookup C_InvalidLetter = some (excClassObj nm_InvalidLetter q_InvalidLetter C_InvalidLetter N_InvalidLetter bs_InvalidLetter (.ref pr_InvalidLetter :: [.type "ValueError", .type "Exception", .type "BaseException", .type "object"]) true sn_InvalidLetter sub_InvalidLetter ab_InvalidLetter col_InvalidLetter dd_InvalidLetter k0_InvalidLetter k1_InvalidLetter k2_InvalidLetter k3_InvalidLetter k5_InvalidLetter "ValueError.__new__"))
    (ii_InvalidLetter : PySem.W.findIn K (.ref C_InvalidLetter) "__init__" = some (some (.ref fi_InvalidLetter))) (li_InvalidLetter : K.lookup fi_InvalidLetter = some ⟨oc_InvalidLetter, od_InvalidLetter, .func (PySem.W.ksFn "__init__" "InvalidLetter.__init__" (defArgs s_InvalidLetter_init) (defBody s_InvalidLetter_init) (defScope s_InvalidLetter_init) .none kV_InvalidLetter doc_InvalidLetter pm_InvalidLetter an_InvalidLetter (.ref cda_InvalidLetter) ct_InvalidLetter cc_InvalidLetter), osl_InvalidLetter⟩) (ei_InvalidLetter : PySem.W.codeIn K (.ref cda_InvalidLetter) "InvalidLetter.__init__" = true)
    (lk_InvalidLetter : K.lookup cda_InvalidLetter = some ⟨ccl_InvalidLetter, cdd_InvalidLetter, .fields vs_InvalidLetter, ccs_InvalidLetter⟩) (v2_InvalidLetter : vs_InvalidLetter[2]? = some (.str file_InvalidLetter tf_InvalidLetter)) (fl_InvalidLetter : ((PW.main.file : Str) == file_InvalidLetter) = true) (lcc_InvalidLetter : K.lookup cc_InvalidLetter = some ⟨cl_InvalidLetter, cld_InvalidLetter, .cell (some (.ref C_InvalidLetter)), csl_InvalidLetter⟩)
    (su_InvalidLetter : PySem.W.ks_superIn K C_InvalidLetter C_InvalidLetter "__init__" = some (some (.builtin "ValueError.__init__"))) (se_InvalidLetter : PySem.W.mroIn K C_InvalidLetter (.ref C_InvalidLetter) = some true) (sb_InvalidLetter : PySem.W.subIn K (.ref C_InvalidLetter) (.type "ValueError") = some true) (op_InvalidLetter : PySem.W.nsIn K cStatics "thirdparty.any" = some none) (tp_InvalidLetter : (PW.main.scope.names.lookup ("super" : Str)).isSome = false)
    (sa_InvalidLetter : PySem.W.findIn K (.ref C_InvalidLetter) "__setattr__" = some (some (.builtin "object.__setattr__"))) (ti_InvalidLetter : PySem.W.typeIn K (.ref fi_InvalidLetter) = some (.type "function")) (kc_InvalidLetter : PySem.W.keepIn K (.ref C_InvalidLetter) = true) (ex_InvalidLetter : PySem.W.subIn K (.ref C_InvalidLetter) (.type "BaseException") = some true) (ty_InvalidLetter : PySem.W.typeIn K (.ref C_InvalidLetter) = some (.type "type"))
    (ga_InvalidLetter : PySem.W.findIn K (.ref C_InvalidLetter) "__getattribute__" = some (some (.builtin "BaseException.__getattribute__"))) (gg_InvalidLetter : PySem.W.findIn K (.ref C_InvalidLetter) "__getattr__" = some none) (hdc_InvalidLetter : PySem.W.hasDictIn K C_InvalidLetter = true) (ss_InvalidLetter : PySem.W.subIn K (.ref C_InvalidLetter) (.ref C_InvalidLetter) = some true)
    (nf_InvalidLetter_value : PySem.W.findIn K (.ref C_InvalidLetter) "value" = some none)
    {C_InvalidNumber fi_InvalidNumber pr_InvalidNumber N_InvalidNumber cda_InvalidNumber cc_InvalidNumber : Addr} {nm_InvalidNumber q_InvalidNumber : Str} {bs_InvalidNumber : List Value} {sn_InvalidNumber : List Str} {sub_InvalidNumber : List Value} {ab_InvalidNumber : Bool} {col_InvalidNumber : Option Bool} {dd_InvalidNumber : Option Addr} {k0_InvalidNumber k1_InvalidNumber k2_InvalidNumber k3_InvalidNumber k5_InvalidNumber : Option Value} {kV_InvalidNumber doc_InvalidNumber pm_InvalidNumber ct_InvalidNumber oc_InvalidNumber ccl_InvalidNumber cl_InvalidNumber : Value} {an_InvalidNumber od_InvalidNumber cdd_InvalidNumber cld_InvalidNumber : Option Addr} {osl_InvalidNumber ccs_InvalidNumber csl_InvalidNumber : Array (Option Value)} {vs_InvalidNumber : Array Value} {file_InvalidNumber : Str} {tf_InvalidNumber : Tok}
    (a_InvalidNumber : PySem.W.nsIn K mainGlobals "InvalidNumber" = some (some (.ref C_InvalidNumber))) (lc_InvalidNumber : K.lookup C_InvalidNumber = some (excClassObj nm_InvalidNumber q_InvalidNumber C_InvalidNumber N_InvalidNumber bs_InvalidNumber (.ref pr_InvalidNumber :: [.type "ValueError", .type "Exception", .type "BaseException", .type "object"]) true sn_InvalidNumber sub_InvalidNumber ab_InvalidNumber col_InvalidNumber dd_InvalidNumber k0_InvalidNumber k1_InvalidNumber k2_InvalidNumber k3_InvalidNumber k5_InvalidNumber "ValueError.__new__"))
    (ii_InvalidNumber : PySem.W.findIn K (.ref C_InvalidNumber) "__init__" = some (some (.ref fi_InvalidNumber))) (li_InvalidNumber : K.lookup fi_InvalidNumber = some ⟨oc_InvalidNumber, od_InvalidNumber, .func (PySem.W.ksFn "__init__" "InvalidNumber.__init__" (defArgs s_InvalidNumber_init) (defBody s_InvalidNumber_init) (defScope s_InvalidNumber_init) .none kV_InvalidNumber doc_InvalidNumber pm_InvalidNumber an_InvalidNumber (.ref cda_InvalidNumber) ct_InvalidNumber cc_InvalidNumber), osl_InvalidNumber⟩) (ei_InvalidNumber : PySem.W.codeIn K (.ref cda_InvalidNumber) "InvalidNumber.__init__" = true)
    (lk_InvalidNumber : K.lookup cda_InvalidNumber = some ⟨ccl_InvalidNumber, cdd_InvalidNumber, .fields vs_InvalidNumber, ccs_InvalidNumber⟩) (v2_InvalidNumber : vs_InvalidNumber[2]? = some (.str file_InvalidNumber tf_InvalidNumber)) (fl_InvalidNumber : ((PW.main.file : Str) == file_InvalidNumber) = true) (lcc_InvalidNumber : K.lookup cc_InvalidNumber = some ⟨cl_InvalidNumber, cld_InvalidNumber, .cell (some (.ref C_InvalidNumber)), csl_InvalidNumber⟩)
    (su_InvalidNumber : PySem.W.ks_superIn K C_InvalidNumber C_InvalidNumber "__init__" = some (some (.builtin "ValueError.__init__"))) (se_InvalidNumber : PySem.W.mroIn K C_InvalidNumber (.ref C_InvalidNumber) = some true) (sb_InvalidNumber : PySem.W.subIn K (.ref C_InvalidNumber) (.type "ValueError") = some true) (op_InvalidNumber : PySem.W.nsIn K cStatics "thirdparty.any" = some none) (tp_InvalidNumber : (PW.main.scope.names.lookup ("super" : Str)).isSome = false)
    (sa_InvalidNumber : PySem.W.findIn K (.ref C_InvalidNumber) "__setattr__" = some (some (.builtin "object.__setattr__"))) (ti_InvalidNumber : PySem.W.typeIn K (.ref fi_InvalidNumber) = some (.type "function")) (kc_InvalidNumber : PySem.W.keepIn K (.ref C_InvalidNumber) = true) (ex_InvalidNumber : PySem.W.subIn K (.ref C_InvalidNumber) (.type "BaseException") = some true) (ty_InvalidNumber : PySem.W.typeIn K (.ref C_InvalidNumber) = some (.type "type"))
    (ga_InvalidNumber : PySem.W.findIn K (.ref C_InvalidNumber) "__getattribute__" = some (some (.builtin "BaseException.__getattribute__"))) (gg_InvalidNumber : PySem.W.findIn K (.ref C_InvalidNumber) "__getattr__" = some none) (hdc_InvalidNumber : PySem.W.hasDictIn K C_InvalidNumber = true) (ss_InvalidNumber : PySem.W.subIn K (.ref C_InvalidNumber) (.ref C_InvalidNumber) = some true)
    (nf_InvalidNumber_value : PySem.W.findIn K (.ref C_InvalidNumber) "value" = some none)
    {C_InvalidPlace fi_InvalidPlace pr_InvalidPlace N_InvalidPlace cda_InvalidPlace cc_InvalidPlace : Addr} {nm_InvalidPlace q_InvalidPlace : Str} {bs_InvalidPlace : List Value} {sn_InvalidPlace : List Str} {sub_InvalidPlace : List Value} {ab_InvalidPlace : Bool} {col_InvalidPlace : Option Bool} {dd_InvalidPlace : Option Addr} {k0_InvalidPlace k1_InvalidPlace k2_InvalidPlace k3_InvalidPlace k5_InvalidPlace : Option Value} {kV_InvalidPlace doc_InvalidPlace pm_InvalidPlace ct_InvalidPlace oc_InvalidPlace ccl_InvalidPlace cl_InvalidPlace : Value} {an_InvalidPlace od_InvalidPlace cdd_InvalidPlace cld_InvalidPlace : Option Addr} {osl_InvalidPlace ccs_InvalidPlace csl_InvalidPlace : Array (Option Value)} {vs_InvalidPlace : Array Value} {file_InvalidPlace : Str} {tf_InvalidPlace : Tok}
    (a_InvalidPlace : PySem.W.nsIn K mainGlobals "InvalidPlace" = some (some (.ref C_InvalidPlace))) (lc_InvalidPlace : K.lookup C_InvalidPlace = some (excClassObj nm_InvalidPlace q_InvalidPlace C_InvalidPlace N_InvalidPlace bs_InvalidPlace (.ref pr_InvalidPlace :: [.type "ValueError", .type "Exception", .type "BaseException", .type "object"]) true sn_InvalidPlace sub_InvalidPlace ab_InvalidPlace col_InvalidPlace dd_InvalidPlace k0_InvalidPlace k1_InvalidPlace k2_InvalidPlace k3_InvalidPlace k5_InvalidPlace "ValueError.__new__"))
    (ii_InvalidPlace : PySem.W.findIn K (.ref C_InvalidPlace) "__init__" = some (some (.ref fi_InvalidPlace))) (li_InvalidPlace : K.lookup fi_InvalidPlace = some ⟨oc_InvalidPlace, od_InvalidPlace, .func (PySem.W.ksFn "__init__" "InvalidPlace.__init__" (defArgs s_InvalidPlace_init) (defBody s_InvalidPlace_init) (defScope s_InvalidPlace_init) .none kV_InvalidPlace doc_InvalidPlace pm_InvalidPlace an_InvalidPlace (.ref cda_InvalidPlace) ct_InvalidPlace cc_InvalidPlace), osl_InvalidPlace⟩) (ei_InvalidPlace : PySem.W.codeIn K (.ref cda_InvalidPlace) "InvalidPlace.__init__" = true)
    (lk_InvalidPlace : K.lookup cda_InvalidPlace = some ⟨ccl_InvalidPlace, cdd_InvalidPlace, .fields vs_InvalidPlace, ccs_InvalidPlace⟩) (v2_InvalidPlace : vs_InvalidPlace[2]? = some (.str file_InvalidPlace tf_InvalidPlace)) (fl_InvalidPlace : ((PW.main.file : Str) == file_InvalidPlace) = true) (lcc_InvalidPlace : K.lookup cc_InvalidPlace = some ⟨cl_InvalidPlace, cld_InvalidPlace, .cell (some (.ref C_InvalidPlace)), csl_InvalidPlace⟩)
    (su_InvalidPlace : PySem.W.ks_superIn K C_InvalidPlace C_InvalidPlace "__init__" = some (some (.builtin "ValueError.__init__"))) (se_InvalidPlace : PySem.W.mroIn K C_InvalidPlace (.ref C_InvalidPlace) = some true) (sb_InvalidPlace : PySem.W.subIn K (.ref C_InvalidPlace) (.type "ValueError") = some true) (op_InvalidPlace : PySem.W.nsIn K cStatics "thirdparty.any" = some none) (tp_InvalidPlace : (PW.main.scope.names.lookup ("super" : Str)).isSome = false)
    (sa_InvalidPlace : PySem.W.findIn K (.ref C_InvalidPlace) "__setattr__" = some (some (.builtin "object.__setattr__"))) (ti_InvalidPlace : PySem.W.typeIn K (.ref fi_InvalidPlace) = some (.type "function")) (kc_InvalidPlace : PySem.W.keepIn K (.ref C_InvalidPlace) = true) (ex_InvalidPlace : PySem.W.subIn K (.ref C_InvalidPlace) (.type "BaseException") = some true) (ty_InvalidPlace : PySem.W.typeIn K (.ref C_InvalidPlace) = some (.type "type"))
    (ga_InvalidPlace : PySem.W.findIn K (.ref C_InvalidPlace) "__getattribute__" = some (some (.builtin "BaseException.__getattribute__"))) (gg_InvalidPlace : PySem.W.findIn K (.ref C_InvalidPlace) "__getattr__" = some none) (hdc_InvalidPlace : PySem.W.hasDictIn K C_InvalidPlace = true) (ss_InvalidPlace : PySem.W.subIn K (.ref C_InvalidPlace) (.ref C_InvalidPlace) = some true)
    (nf_InvalidPlace_value : PySem.W.findIn K (.ref C_InvalidPlace) "value" = some none)
    {C_InvalidMachine fi_InvalidMachine pr_InvalidMachine N_InvalidMachine cda_InvalidMachine cc_InvalidMachine : Addr} {nm_InvalidMachine q_InvalidMachine : Str} {bs_InvalidMachine : List Value} {sn_InvalidMachine : List Str} {sub_InvalidMachine : List Value} {ab_InvalidMachine : Bool} {col_InvalidMachine : Option Bool} {dd_InvalidMachine : Option Addr} {k0_InvalidMachine k1_InvalidMachine k2_InvalidMachine k3_InvalidMachine k5_InvalidMachine : Option Value} {kV_InvalidMachine doc_InvalidMachine pm_InvalidMachine ct_InvalidMachine oc_InvalidMachine ccl_InvalidMachine cl_InvalidMachine : Value} {an_InvalidMachine od_InvalidMachine cdd_InvalidMachine cld_InvalidMachine : Option Addr} {osl_InvalidMachine ccs_InvalidMachine csl_InvalidMachine : Array (Option Value)} {vs_InvalidMachine : Array Value} {file_InvalidMachine : Str} {tf_InvalidMachine : Tok}
    (a_InvalidMachine : PySem.W.nsIn K mainGlobals "InvalidMachine" = some (some (.ref C_InvalidMachine))) (lc_InvalidMachine : K.lookup C_InvalidMachine = some (excClassObj nm_InvalidMachine q_InvalidMachine C_InvalidMachine N_InvalidMachine bs_InvalidMachine (.ref pr_InvalidMachine :: [.type "ValueError", .type "Exception", .type "BaseException", .type "object"]) true sn_InvalidMachine sub_InvalidMachine ab_InvalidMachine col_InvalidMachine dd_InvalidMachine k0_InvalidMachine k1_InvalidMachine k2_InvalidMachine k3_InvalidMachine k5_InvalidMachine "ValueError.__new__"))
    (ii_InvalidMachine : PySem.W.findIn K (.ref C_InvalidMachine) "__init__" = some (some (.ref fi_InvalidMachine))) (li_InvalidMachine : K.lookup fi_InvalidMachine = some ⟨oc_InvalidMachine, od_InvalidMachine, .func (PySem.W.ksFn "__init__" "InvalidMachine.__init__" (defArgs s_InvalidMachine_init) (defBody s_InvalidMachine_init) (defScope s_InvalidMachine_init) .none kV_InvalidMachine doc_InvalidMachine pm_InvalidMachine an_InvalidMachine (.ref cda_InvalidMachine) ct_InvalidMachine cc_InvalidMachine), osl_InvalidMachine⟩) (ei_InvalidMachine : PySem.W.codeIn K (.ref cda_InvalidMachine) "InvalidMachine.__init__" = true)
    (lk_InvalidMachine : K.lookup cda_InvalidMachine = some ⟨ccl_InvalidMachine, cdd_InvalidMachine, .fields vs_InvalidMachine, ccs_InvalidMachine⟩) (v2_InvalidMachine : vs_InvalidMachine[2]? = some (.str file_InvalidMachine tf_InvalidMachine)) (fl_InvalidMachine : ((PW.main.file : Str) == file_InvalidMachine) = true) (lcc_InvalidMachine : K.lookup cc_InvalidMachine = some ⟨cl_InvalidMachine, cld_InvalidMachine, .cell (some (.ref C_InvalidMachine)), csl_InvalidMachine⟩)
    (su_InvalidMachine : PySem.W.ks_superIn K C_InvalidMachine C_InvalidMachine "__init__" = some (some (.builtin "ValueError.__init__"))) (se_InvalidMachine : PySem.W.mroIn K C_InvalidMachine (.ref C_InvalidMachine) = some true) (sb_InvalidMachine : PySem.W.subIn K (.ref C_InvalidMachine) (.type "ValueError") = some true) (op_InvalidMachine : PySem.W.nsIn K cStatics "thirdparty.any" = some none) (tp_InvalidMachine : (PW.main.scope.names.lookup ("super" : Str)).isSome = false)
    (sa_InvalidMachine : PySem.W.findIn K (.ref C_InvalidMachine) "__setattr__" = some (some (.builtin "object.__setattr__"))) (ti_InvalidMachine : PySem.W.typeIn K (.ref fi_InvalidMachine) = some (.type "function")) (kc_InvalidMachine : PySem.W.keepIn K (.ref C_InvalidMachine) = true) (ex_InvalidMachine : PySem.W.subIn K (.ref C_InvalidMachine) (.type "BaseException") = some true) (ty_InvalidMachine : PySem.W.typeIn K (.ref C_InvalidMachine) = some (.type "type"))
    (ga_InvalidMachine : PySem.W.findIn K (.ref C_InvalidMachine) "__getattribute__" = some (some (.builtin "BaseException.__getattribute__"))) (gg_InvalidMachine : PySem.W.findIn K (.ref C_InvalidMachine) "__getattr__" = some none) (hdc_InvalidMachine : PySem.W.hasDictIn K C_InvalidMachine = true) (ss_InvalidMachine : PySem.W.subIn K (.ref C_InvalidMachine) (.ref C_InvalidMachine) = some true)
    (nf_InvalidMachine_value : PySem.W.findIn K (.ref C_InvalidMachine) "value" = some none)
    {C_InvalidProduct fi_InvalidProduct pr_InvalidProduct N_InvalidProduct cda_InvalidProduct cc_InvalidProduct : Addr} {nm_InvalidProduct q_InvalidProduct : Str} {bs_InvalidProduct : List Value} {sn_InvalidProduct : List Str} {sub_InvalidProduct : List Value} {ab_InvalidProduct : Bool} {col_InvalidProduct : Option Bool} {dd_InvalidProduct : Option Addr} {k0_InvalidProduct k1_InvalidProduct k2_InvalidProduct k3_InvalidProduct k5_InvalidProduct : Option Value} {kV_InvalidProduct doc_InvalidProduct pm_InvalidProduct ct_InvalidProduct oc_InvalidProduct ccl_InvalidProduct cl_InvalidProduct : Value} {an_InvalidProduct od_InvalidProduct cdd_InvalidProduct cld_InvalidProduct : Option Addr} {osl_InvalidProduct ccs_InvalidProduct csl_InvalidProduct : Array (Option Value)} {vs_InvalidProduct : Array Value} {file_InvalidProduct : Str} {tf_InvalidProduct : Tok}
    (a_InvalidProduct : PySem.W.nsIn K mainGlobals "InvalidProduct" = some (some (.ref C_InvalidProduct))) (lc_InvalidProduct : K.lookup C_InvalidProduct = some (excClassObj nm_InvalidProduct q_InvalidProduct C_InvalidProduct N_InvalidProduct bs_InvalidProduct (.ref pr_InvalidProduct :: [.type "ValueError", .type "Exception", .type "BaseException", .type "object"]) true sn_InvalidProduct sub_InvalidProduct ab_InvalidProduct col_InvalidProduct dd_InvalidProduct k0_InvalidProduct k1_InvalidProduct k2_InvalidProduct k3_InvalidProduct k5_InvalidProduct "ValueError.__new__"))
    (ii_InvalidProduct : PySem.W.findIn K (.ref C_InvalidProduct) "__init__" = some (some (.ref fi_InvalidProduct))) (li_InvalidProduct : K.lookup fi_InvalidProduct = some ⟨oc_InvalidProduct, od_InvalidProduct, .func (PySem.W.ksFn "__init__" "InvalidProduct.__init__" (defArgs s_InvalidProduct_init) (defBody s_InvalidProduct_init) (defScope s_InvalidProduct_init) .none kV_InvalidProduct doc_InvalidProduct pm_InvalidProduct an_InvalidProduct (.ref cda_InvalidProduct) ct_InvalidProduct cc_InvalidProduct), osl_InvalidProduct⟩) (ei_InvalidProduct : PySem.W.codeIn K (.ref cda_InvalidProduct) "InvalidProduct.__init__" = true)
    (lk_InvalidProduct : K.lookup cda_InvalidProduct = some ⟨ccl_InvalidProduct, cdd_InvalidProduct, .fields vs_InvalidProduct, ccs_InvalidProduct⟩) (v2_InvalidProduct : vs_InvalidProduct[2]? = some (.str file_InvalidProduct tf_InvalidProduct)) (fl_InvalidProduct : ((PW.main.file : Str) == file_InvalidProduct) = true) (lcc_InvalidProduct : K.lookup cc_InvalidProduct = some ⟨cl_InvalidProduct, cld_InvalidProduct, .cell (some (.ref C_InvalidProduct)), csl_InvalidProduct⟩)
    (su_InvalidProduct : PySem.W.ks_superIn K C_InvalidProduct C_InvalidProduct "__init__" = some (some (.builtin "ValueError.__init__"))) (se_InvalidProduct : PySem.W.mroIn K C_InvalidProduct (.ref C_InvalidProduct) = some true) (sb_InvalidProduct : PySem.W.subIn K (.ref C_InvalidProduct) (.type "ValueError") = some true) (op_InvalidProduct : PySem.W.nsIn K cStatics "thirdparty.any" = some none) (tp_InvalidProduct : (PW.main.scope.names.lookup ("super" : Str)).isSome = false)
    (sa_InvalidProduct : PySem.W.findIn K (.ref C_InvalidProduct) "__setattr__" = some (some (.builtin "object.__setattr__"))) (ti_InvalidProduct : PySem.W.typeIn K (.ref fi_InvalidProduct) = some (.type "function")) (kc_InvalidProduct : PySem.W.keepIn K (.ref C_InvalidProduct) = true) (ex_InvalidProduct : PySem.W.subIn K (.ref C_InvalidProduct) (.type "BaseException") = some true) (ty_InvalidProduct : PySem.W.typeIn K (.ref C_InvalidProduct) = some (.type "type"))
    (ga_InvalidProduct : PySem.W.findIn K (.ref C_InvalidProduct) "__getattribute__" = some (some (.builtin "BaseException.__getattribute__"))) (gg_InvalidProduct : PySem.W.findIn K (.ref C_InvalidProduct) "__getattr__" = some none) (hdc_InvalidProduct : PySem.W.hasDictIn K C_InvalidProduct = true) (ss_InvalidProduct : PySem.W.subIn K (.ref C_InvalidProduct) (.ref C_InvalidProduct) = some true)
    (nf_InvalidProduct_value : PySem.W.findIn K (.ref C_InvalidProduct) "value" = some none)
    {C_InvalidSum fi_InvalidSum pr_InvalidSum N_InvalidSum cda_InvalidSum cc_InvalidSum : Addr} {nm_InvalidSum q_InvalidSum : Str} {bs_InvalidSum : List Value} {sn_InvalidSum : List Str} {sub_InvalidSum : List Value} {ab_InvalidSum : Bool} {col_InvalidSum : Option Bool} {dd_InvalidSum : Option Addr} {k0_InvalidSum k1_InvalidSum k2_InvalidSum k3_InvalidSum k5_InvalidSum : Option Value} {kV_InvalidSum doc_InvalidSum pm_InvalidSum ct_InvalidSum oc_InvalidSum ccl_InvalidSum cl_InvalidSum : Value} {an_InvalidSum od_InvalidSum cdd_InvalidSum cld_InvalidSum : Option Addr} {osl_InvalidSum ccs_InvalidSum csl_InvalidSum : Array (Option Value)} {vs_InvalidSum : Array Value} {file_InvalidSum : Str} {tf_InvalidSum : Tok}
    (a_InvalidSum : PySem.W.nsIn K mainGlobals "InvalidSum" = some (some (.ref C_InvalidSum))) (lc_InvalidSum : K.lookup C_InvalidSum = some (excClassObj nm_InvalidSum q_InvalidSum C_InvalidSum N_InvalidSum bs_InvalidSum (.ref pr_InvalidSum :: [.type "ValueError", .type "Exception", .type "BaseException", .type "object"]) true sn_InvalidSum sub_InvalidSum ab_InvalidSum col_InvalidSum dd_InvalidSum k0_InvalidSum k1_InvalidSum k2_InvalidSum k3_InvalidSum k5_InvalidSum "ValueError.__new__"))
    (ii_InvalidSum : PySem.W.findIn K (.ref C_InvalidSum) "__init__" = some (some (.ref fi_InvalidSum))) (li_InvalidSum : K.lookup fi_InvalidSum = some ⟨oc_InvalidSum, od_InvalidSum, .func (PySem.W.ksFn "__init__" "InvalidSum.__init__" (defArgs s_InvalidSum_init) (defBody s_InvalidSum_init) (defScope s_InvalidSum_init) .none kV_InvalidSum doc_InvalidSum pm_InvalidSum an_InvalidSum (.ref cda_InvalidSum) ct_InvalidSum cc_InvalidSum), osl_InvalidSum⟩) (ei_InvalidSum : PySem.W.codeIn K (.ref cda_InvalidSum) "InvalidSum.__init__" = true)
    (lk_InvalidSum : K.lookup cda_InvalidSum = some ⟨ccl_InvalidSum, cdd_InvalidSum, .fields vs_InvalidSum, ccs_InvalidSum⟩) (v2_InvalidSum : vs_InvalidSum[2]? = some (.str file_InvalidSum tf_InvalidSum)) (fl_InvalidSum : ((PW.main.file : Str) == file_InvalidSum) = true) (lcc_InvalidSum : K.lookup cc_InvalidSum = some ⟨cl_InvalidSum, cld_InvalidSum, .cell (some (.ref C_InvalidSum)), csl_InvalidSum⟩)
    (su_InvalidSum : PySem.W.ks_superIn K C_InvalidSum C_InvalidSum "__init__" = some (some (.builtin "ValueError.__init__"))) (se_InvalidSum : PySem.W.mroIn K C_InvalidSum (.ref C_InvalidSum) = some true) (sb_InvalidSum : PySem.W.subIn K (.ref C_InvalidSum) (.type "ValueError") = some true) (op_InvalidSum : PySem.W.nsIn K cStatics "thirdparty.any" = some none) (tp_InvalidSum : (PW.main.scope.names.lookup ("super" : Str)).isSome = false)
    (sa_InvalidSum : PySem.W.findIn K (.ref C_InvalidSum) "__setattr__" = some (some (.builtin "object.__setattr__"))) (ti_InvalidSum : PySem.W.typeIn K (.ref fi_InvalidSum) = some (.type "function")) (kc_InvalidSum : PySem.W.keepIn K (.ref C_InvalidSum) = true) (ex_InvalidSum : PySem.W.subIn K (.ref C_InvalidSum) (.type "BaseException") = some true) (ty_InvalidSum : PySem.W.typeIn K (.ref C_InvalidSum) = some (.type "type"))
    (ga_InvalidSum : PySem.W.findIn K (.ref C_InvalidSum) "__getattribute__" = some (some (.builtin "BaseException.__getattribute__"))) (gg_InvalidSum : PySem.W.findIn K (.ref C_InvalidSum) "__getattr__" = some none) (hdc_InvalidSum : PySem.W.hasDictIn K C_InvalidSum = true) (ss_InvalidSum : PySem.W.subIn K (.ref C_InvalidSum) (.ref C_InvalidSum) = some true)
    (nf_InvalidSum_value : PySem.W.findIn K (.ref C_InvalidSum) "value" = some none)
    {C_InvalidTest fi_InvalidTest pr_InvalidTest N_InvalidTest cda_InvalidTest cc_InvalidTest : Addr} {nm_InvalidTest q_InvalidTest : Str} {bs_InvalidTest : List Value} {sn_InvalidTest : List Str} {sub_InvalidTest : List Value} {ab_InvalidTest : Bool} {col_InvalidTest : Option Bool} {dd_InvalidTest : Option Addr} {k0_InvalidTest k1_InvalidTest k2_InvalidTest k3_InvalidTest k5_InvalidTest : Option Value} {kV_InvalidTest doc_InvalidTest pm_InvalidTest ct_InvalidTest oc_InvalidTest ccl_InvalidTest cl_InvalidTest : Value} {an_InvalidTest od_InvalidTest cdd_InvalidTest cld_InvalidTest : Option Addr} {osl_InvalidTest ccs_InvalidTest csl_InvalidTest : Array (Option Value)} {vs_InvalidTest : Array Value} {file_InvalidTest : Str} {tf_InvalidTest : Tok}
    (a_InvalidTest : PySem.W.nsIn K mainGlobals "InvalidTest" = some (some (.ref C_InvalidTest))) (lc_InvalidTest : K.lookup C_InvalidTest = some (excClassObj nm_InvalidTest q_InvalidTest C_InvalidTest N_InvalidTest bs_InvalidTest (.ref pr_InvalidTest :: [.type "ValueError", .type "Exception", .type "BaseException", .type "object"]) true sn_InvalidTest sub_InvalidTest ab_InvalidTest col_InvalidTest dd_InvalidTest k0_InvalidTest k1_InvalidTest k2_InvalidTest k3_InvalidTest k5_InvalidTest "ValueError.__new__"))
    (ii_InvalidTest : PySem.W.findIn K (.ref C_InvalidTest) "__init__" = some (some (.ref fi_InvalidTest))) (li_InvalidTest : K.lookup fi_InvalidTest = some ⟨oc_InvalidTest, od_InvalidTest, .func (PySem.W.ksFn "__init__" "InvalidTest.__init__" (defArgs s_InvalidTest_init) (defBody s_InvalidTest_init) (defScope s_InvalidTest_init) .none kV_InvalidTest doc_InvalidTest pm_InvalidTest an_InvalidTest (.ref cda_InvalidTest) ct_InvalidTest cc_InvalidTest), osl_InvalidTest⟩) (ei_InvalidTest : PySem.W.codeIn K (.ref cda_InvalidTest) "InvalidTest.__init__" = true)
    (lk_InvalidTest : K.lookup cda_InvalidTest = some ⟨ccl_InvalidTest, cdd_InvalidTest, .fields vs_InvalidTest, ccs_InvalidTest⟩) (v2_InvalidTest : vs_InvalidTest[2]? = some (.str file_InvalidTest tf_InvalidTest)) (fl_InvalidTest : ((PW.main.file : Str) == file_InvalidTest) = true) (lcc_InvalidTest : K.lookup cc_InvalidTest = some ⟨cl_InvalidTest, cld_InvalidTest, .cell (some (.ref C_InvalidTest)), csl_InvalidTest⟩)
    (su_InvalidTest : PySem.W.ks_superIn K C_InvalidTest C_InvalidTest "__init__" = some (some (.builtin "ValueError.__init__"))) (se_InvalidTest : PySem.W.mroIn K C_InvalidTest (.ref C_InvalidTest) = some true) (sb_InvalidTest : PySem.W.subIn K (.ref C_InvalidTest) (.type "ValueError") = some true) (op_InvalidTest : PySem.W.nsIn K cStatics "thirdparty.any" = some none) (tp_InvalidTest : (PW.main.scope.names.lookup ("super" : Str)).isSome = false)
    (sa_InvalidTest : PySem.W.findIn K (.ref C_InvalidTest) "__setattr__" = some (some (.builtin "object.__setattr__"))) (ti_InvalidTest : PySem.W.typeIn K (.ref fi_InvalidTest) = some (.type "function")) (kc_InvalidTest : PySem.W.keepIn K (.ref C_InvalidTest) = true) (ex_InvalidTest : PySem.W.subIn K (.ref C_InvalidTest) (.type "BaseException") = some true) (ty_InvalidTest : PySem.W.typeIn K (.ref C_InvalidTest) = some (.type "type"))
    (ga_InvalidTest : PySem.W.findIn K (.ref C_InvalidTest) "__getattribute__" = some (some (.builtin "BaseException.__getattribute__"))) (gg_InvalidTest : PySem.W.findIn K (.ref C_InvalidTest) "__getattr__" = some none) (hdc_InvalidTest : PySem.W.hasDictIn K C_InvalidTest = true) (ss_InvalidTest : PySem.W.subIn K (.ref C_InvalidTest) (.ref C_InvalidTest) = some true)
    (nf_InvalidTest_value : PySem.W.findIn K (.ref C_InvalidTest) "value" = some none)
    {C_InvalidLine fi_InvalidLine pr_InvalidLine N_InvalidLine cda_InvalidLine cc_InvalidLine : Addr} {nm_InvalidLine q_InvalidLine : Str} {bs_InvalidLine : List Value} {sn_InvalidLine : List Str} {sub_InvalidLine : List Value} {ab_InvalidLine : Bool} {col_InvalidLine : Option Bool} {dd_InvalidLine : Option Addr} {k0_InvalidLine k1_InvalidLine k2_InvalidLine k3_InvalidLine k5_InvalidLine : Option Value} {kV_InvalidLine doc_InvalidLine pm_InvalidLine ct_InvalidLine oc_InvalidLine ccl_InvalidLine cl_InvalidLine : Value} {an_InvalidLine od_InvalidLine cdd_InvalidLine cld_InvalidLine : Option Addr} {osl_InvalidLine ccs_InvalidLine csl_InvalidLine : Array (Option Value)} {vs_InvalidLine : Array Value} {file_InvalidLine : Str} {tf_InvalidLine : Tok}
    (a_InvalidLine : PySem.W.nsIn K mainGlobals "InvalidLine" = some (some (.ref C_InvalidLine))) (lc_InvalidLine : K.lookup C_InvalidLine = some (excClassObj nm_InvalidLine q_InvalidLine C_InvalidLine N_InvalidLine bs_InvalidLine (.ref pr_InvalidLine :: [.type "ValueError", .type "Exception", .type "BaseException", .type "object"]) true sn_InvalidLine sub_InvalidLine ab_InvalidLine col_InvalidLine dd_InvalidLine k0_InvalidLine k1_InvalidLine k2_InvalidLine k3_InvalidLine k5_InvalidLine "ValueError.__new__"))
    (ii_InvalidLine : PySem.W.findIn K (.ref C_InvalidLine) "__init__" = some (some (.ref fi_InvalidLine))) (li_InvalidLine : K.lookup fi_InvalidLine = some ⟨oc_InvalidLine, od_InvalidLine, .func (PySem.W.ksFn "__init__" "InvalidLine.__init__" (defArgs s_InvalidLine_init) (defBody s_InvalidLine_init) (defScope s_InvalidLine_init) .none kV_InvalidLine doc_InvalidLine pm_InvalidLine an_InvalidLine (.ref cda_InvalidLine) ct_InvalidLine cc_InvalidLine), osl_InvalidLine⟩) (ei_InvalidLine : PySem.W.codeIn K (.ref cda_InvalidLine) "InvalidLine.__init__" = true)
    (lk_InvalidLine : K.lookup cda_InvalidLine = some ⟨ccl_InvalidLine, cdd_InvalidLine, .fields vs_InvalidLine, ccs_InvalidLine⟩) (v2_InvalidLine : vs_InvalidLine[2]? = some (.str file_InvalidLine tf_InvalidLine)) (fl_InvalidLine : ((PW.main.file : Str) == file_InvalidLine) = true) (lcc_InvalidLine : K.lookup cc_InvalidLine = some ⟨cl_InvalidLine, cld_InvalidLine, .cell (some (.ref C_InvalidLine)), csl_InvalidLine⟩)
    (su_InvalidLine : PySem.W.ks_superIn K C_InvalidLine C_InvalidLine "__init__" = some (some (.builtin "ValueError.__init__"))) (se_InvalidLine : PySem.W.mroIn K C_InvalidLine (.ref C_InvalidLine) = some true) (sb_InvalidLine : PySem.W.subIn K (.ref C_InvalidLine) (.type "ValueError") = some true) (op_InvalidLine : PySem.W.nsIn K cStatics "thirdparty.any" = some none) (tp_InvalidLine : (PW.main.scope.names.lookup ("super" : Str)).isSome = false)
    (sa_InvalidLine : PySem.W.findIn K (.ref C_InvalidLine) "__setattr__" = some (some (.builtin "object.__setattr__"))) (ti_InvalidLine : PySem.W.typeIn K (.ref fi_InvalidLine) = some (.type "function")) (kc_InvalidLine : PySem.W.keepIn K (.ref C_InvalidLine) = true) (ex_InvalidLine : PySem.W.subIn K (.ref C_InvalidLine) (.type "BaseException") = some true) (ty_InvalidLine : PySem.W.typeIn K (.ref C_InvalidLine) = some (.type "type"))
    (ga_InvalidLine : PySem.W.findIn K (.ref C_InvalidLine) "__getattribute__" = some (some (.builtin "BaseException.__getattribute__"))) (gg_InvalidLine : PySem.W.findIn K (.ref C_InvalidLine) "__getattr__" = some none) (hdc_InvalidLine : PySem.W.hasDictIn K C_InvalidLine = true) (ss_InvalidLine : PySem.W.subIn K (.ref C_InvalidLine) (.ref C_InvalidLine) = some true)
    (nf_InvalidLine_value : PySem.W.findIn K (.ref C_InvalidLine) "value" = some none)
    {C_InvalidClaim fi_InvalidClaim pr_InvalidClaim N_InvalidClaim cda_InvalidClaim cc_InvalidClaim : Addr} {nm_InvalidClaim q_InvalidClaim : Str} {bs_InvalidClaim : List Value} {sn_InvalidClaim : List Str} {sub_InvalidClaim : List Value} {ab_InvalidClaim : Bool} {col_InvalidClaim : Option Bool} {dd_InvalidClaim : Option Addr} {k0_InvalidClaim k1_InvalidClaim k2_InvalidClaim k3_InvalidClaim k5_InvalidClaim : Option Value} {kV_InvalidClaim doc_InvalidClaim pm_InvalidClaim ct_InvalidClaim oc_InvalidClaim ccl_InvalidClaim cl_InvalidClaim : Value} {an_InvalidClaim od_InvalidClaim cdd_InvalidClaim cld_InvalidClaim : Option Addr} {osl_InvalidClaim ccs_InvalidClaim csl_InvalidClaim : Array (Option Value)} {vs_InvalidClaim : Array Value} {file_InvalidClaim : Str} {tf_InvalidClaim : Tok}
    (a_InvalidClaim : PySem.W.nsIn K mainGlobals "InvalidClaim" = some (some (.ref C_InvalidClaim))) (lc_InvalidClaim : K.lookup C_InvalidClaim = some (excClassObj nm_InvalidClaim q_InvalidClaim C_InvalidClaim N_InvalidClaim bs_InvalidClaim (.ref pr_InvalidClaim :: [.type "ValueError", .type "Exception", .type "BaseException", .type "object"]) true sn_InvalidClaim sub_InvalidClaim ab_InvalidClaim col_InvalidClaim dd_InvalidClaim k0_InvalidClaim k1_InvalidClaim k2_InvalidClaim k3_InvalidClaim k5_InvalidClaim "ValueError.__new__"))
    (ii_InvalidClaim : PySem.W.findIn K (.ref C_InvalidClaim) "__init__" = some (some (.ref fi_InvalidClaim))) (li_InvalidClaim : K.lookup fi_InvalidClaim = some ⟨oc_InvalidClaim, od_InvalidClaim, .func (PySem.W.ksFn "__init__" "InvalidClaim.__init__" (defArgs s_InvalidClaim_init) (defBody s_InvalidClaim_init) (defScope s_InvalidClaim_init) .none kV_InvalidClaim doc_InvalidClaim pm_InvalidClaim an_InvalidClaim (.ref cda_InvalidClaim) ct_InvalidClaim cc_InvalidClaim), osl_InvalidClaim⟩) (ei_InvalidClaim : PySem.W.codeIn K (.ref cda_InvalidClaim) "InvalidClaim.__init__" = true)
    (lk_InvalidClaim : K.lookup cda_InvalidClaim = some ⟨ccl_InvalidClaim, cdd_InvalidClaim, .fields vs_InvalidClaim, ccs_InvalidClaim⟩) (v2_InvalidClaim : vs_InvalidClaim[2]? = some (.str file_InvalidClaim tf_InvalidClaim)) (fl_InvalidClaim : ((PW.main.file : Str) == file_InvalidClaim) = true) (lcc_InvalidClaim : K.lookup cc_InvalidClaim = some ⟨cl_InvalidClaim, cld_InvalidClaim, .cell (some (.ref C_InvalidClaim)), csl_InvalidClaim⟩)
    (su_InvalidClaim : PySem.W.ks_superIn K C_InvalidClaim C_InvalidClaim "__init__" = some (some (.builtin "ValueError.__init__"))) (se_InvalidClaim : PySem.W.mroIn K C_InvalidClaim (.ref C_InvalidClaim) = some true) (sb_InvalidClaim : PySem.W.subIn K (.ref C_InvalidClaim) (.type "ValueError") = some true) (op_InvalidClaim : PySem.W.nsIn K cStatics "thirdparty.any" = some none) (tp_InvalidClaim : (PW.main.scope.names.lookup ("super" : Str)).isSome = false)
    (sa_InvalidClaim : PySem.W.findIn K (.ref C_InvalidClaim) "__setattr__" = some (some (.builtin "object.__setattr__"))) (ti_InvalidClaim : PySem.W.typeIn K (.ref fi_InvalidClaim) = some (.type "function")) (kc_InvalidClaim : PySem.W.keepIn K (.ref C_InvalidClaim) = true) (ex_InvalidClaim : PySem.W.subIn K (.ref C_InvalidClaim) (.type "BaseException") = some true) (ty_InvalidClaim : PySem.W.typeIn K (.ref C_InvalidClaim) = some (.type "type"))
    (ga_InvalidClaim : PySem.W.findIn K (.ref C_InvalidClaim) "__getattribute__" = some (some (.builtin "BaseException.__getattribute__"))) (gg_InvalidClaim : PySem.W.findIn K (.ref C_InvalidClaim) "__getattr__" = some none) (hdc_InvalidClaim : PySem.W.hasDictIn K C_InvalidClaim = true) (ss_InvalidClaim : PySem.W.subIn K (.ref C_InvalidClaim) (.ref C_InvalidClaim) = some true)
    (nf_InvalidClaim_value : PySem.W.findIn K (.ref C_InvalidClaim) "value" = some none)
    {C_InvalidCommand fi_InvalidCommand pr_InvalidCommand N_InvalidCommand cda_InvalidCommand cc_InvalidCommand : Addr} {nm_InvalidCommand q_InvalidCommand : Str} {bs_InvalidCommand : List Value} {sn_InvalidCommand : List Str} {sub_InvalidCommand : List Value} {ab_InvalidCommand : Bool} {col_InvalidCommand : Option Bool} {dd_InvalidCommand : Option Addr} {k0_InvalidCommand k1_InvalidCommand k2_InvalidCommand k3_InvalidCommand k5_InvalidCommand : Option Value} {kV_InvalidCommand doc_InvalidCommand pm_InvalidCommand ct_InvalidCommand oc_InvalidCommand ccl_InvalidCommand cl_InvalidCommand : Value} {an_InvalidCommand od_InvalidCommand cdd_InvalidCommand cld_InvalidCommand : Option Addr} {osl_InvalidCommand ccs_InvalidCommand csl_InvalidCommand : Array (Option Value)} {vs_InvalidCommand : Array Value} {file_InvalidCommand : Str} {tf_InvalidCommand : Tok}
    (a_InvalidCommand : PySem.W.nsIn K mainGlobals "InvalidCommand" = some (some (.ref C_InvalidCommand))) (lc_InvalidCommand : K.lookup C_InvalidCommand = some (excClassObj nm_InvalidCommand q_InvalidCommand C_InvalidCommand N_InvalidCommand bs_InvalidCommand (.ref pr_InvalidCommand :: [.type "ValueError", .type "Exception", .type "BaseException", .type "object"]) true sn_InvalidCommand sub_InvalidCommand ab_InvalidCommand col_InvalidCommand dd_InvalidCommand k0_InvalidCommand k1_InvalidCommand k2_InvalidCommand k3_InvalidCommand k5_InvalidCommand "ValueError.__new__"))
    (ii_InvalidCommand : PySem.W.findIn K (.ref C_InvalidCommand) "__init__" = some (some (.ref fi_InvalidCommand))) (li_InvalidCommand : K.lookup fi_InvalidCommand = some ⟨oc_InvalidCommand, od_InvalidCommand, .func (PySem.W.ksFn "__init__" "InvalidCommand.__init__" (defArgs s_InvalidCommand_init) (defBody s_InvalidCommand_init) (defScope s_InvalidCommand_init) .none kV_InvalidCommand doc_InvalidCommand pm_InvalidCommand an_InvalidCommand (.ref cda_InvalidCommand) ct_InvalidCommand cc_InvalidCommand), osl_InvalidCommand⟩) (ei_InvalidCommand : PySem.W.codeIn K (.ref cda_InvalidCommand) "InvalidCommand.__init__" = true)
    (lk_InvalidCommand : K.lookup cda_InvalidCommand = some ⟨ccl_InvalidCommand, cdd_InvalidCommand, .fields vs_InvalidCommand, ccs_InvalidCommand⟩) (v2_InvalidCommand : vs_InvalidCommand[2]? = some (.str file_InvalidCommand tf_InvalidCommand)) (fl_InvalidCommand : ((PW.main.file : Str) == file_InvalidCommand) = true) (lcc_InvalidCommand : K.lookup cc_InvalidCommand = some ⟨cl_InvalidCommand, cld_InvalidCommand, .cell (some (.ref C_InvalidCommand)), csl_InvalidCommand⟩)
    (su_InvalidCommand : PySem.W.ks_superIn K C_InvalidCommand C_InvalidCommand "__init__" = some (some (.builtin "ValueError.__init__"))) (se_InvalidCommand : PySem.W.mroIn K C_InvalidCommand (.ref C_InvalidCommand) = some true) (sb_InvalidCommand : PySem.W.subIn K (.ref C_InvalidCommand) (.type "ValueError") = some true) (op_InvalidCommand : PySem.W.nsIn K cStatics "thirdparty.any" = some none) (tp_InvalidCommand : (PW.main.scope.names.lookup ("super" : Str)).isSome = false)
    (sa_InvalidCommand : PySem.W.findIn K (.ref C_InvalidCommand) "__setattr__" = some (some (.builtin "object.__setattr__"))) (ti_InvalidCommand : PySem.W.typeIn K (.ref fi_InvalidCommand) = some (.type "function")) (kc_InvalidCommand : PySem.W.keepIn K (.ref C_InvalidCommand) = true) (ex_InvalidCommand : PySem.W.subIn K (.ref C_InvalidCommand) (.type "BaseException") = some true) (ty_InvalidCommand : PySem.W.typeIn K (.ref C_InvalidCommand) = some (.type "type"))
    (ga_InvalidCommand : PySem.W.findIn K (.ref C_InvalidCommand) "__getattribute__" = some (some (.builtin "BaseException.__getattribute__"))) (gg_InvalidCommand : PySem.W.findIn K (.ref C_InvalidCommand) "__getattr__" = some none) (hdc_InvalidCommand : PySem.W.hasDictIn K C_InvalidCommand = true) (ss_InvalidCommand : PySem.W.subIn K (.ref C_InvalidCommand) (.ref C_InvalidCommand) = some true)
    (nf_InvalidCommand_value : PySem.W.findIn K (.ref C_InvalidCommand) "value" = some none)
    {C_InvalidRows fi_InvalidRows pr_InvalidRows N_InvalidRows cda_InvalidRows cc_InvalidRows : Addr} {nm_InvalidRows q_InvalidRows : Str} {bs_InvalidRows : List Value} {sn_InvalidRows : List Str} {sub_InvalidRows : List Value} {ab_InvalidRows : Bool} {col_InvalidRows : Option Bool} {dd_InvalidRows : Option Addr} {k0_InvalidRows k1_InvalidRows k2_InvalidRows k3_InvalidRows k5_InvalidRows : Option Value} {kV_InvalidRows doc_InvalidRows pm_InvalidRows ct_InvalidRows oc_InvalidRows ccl_InvalidRows cl_InvalidRows : Value} {an_InvalidRows od_InvalidRows cdd_InvalidRows cld_InvalidRows : Option Addr} {osl_InvalidRows ccs_InvalidRows csl_InvalidRows : Array (Option Value)} {vs_InvalidRows : Array Value} {file_InvalidRows : Str} {tf_InvalidRows : Tok}
    (a_InvalidRows : PySem.W.nsIn K mainGlobals "InvalidRows" = some (some (.ref C_InvalidRows))) (lc_InvalidRows : K.lookup C_InvalidRows = some (excClassObj nm_InvalidRows q_InvalidRows C_InvalidRows N_InvalidRows bs_InvalidRows (.ref pr_InvalidRows :: [.type "ValueError", .type "Exception", .type "BaseException", .type "object"]) true sn_InvalidRows sub_InvalidRows ab_InvalidRows col_InvalidRows dd_InvalidRows k0_InvalidRows k1_InvalidRows k2_InvalidRows k3_InvalidRows k5_InvalidRows "ValueError.__new__"))
    (ii_InvalidRows : PySem.W.findIn K (.ref C_InvalidRows) "__init__" = some (some (.ref fi_InvalidRows))) (li_InvalidRows : K.lookup fi_InvalidRows = some ⟨oc_InvalidRows, od_InvalidRows, .func (PySem.W.ksFn "__init__" "InvalidRows.__init__" (defArgs s_InvalidRows_init) (defBody s_InvalidRows_init) (defScope s_InvalidRows_init) .none kV_InvalidRows doc_InvalidRows pm_InvalidRows an_InvalidRows (.ref cda_InvalidRows) ct_InvalidRows cc_InvalidRows), osl_InvalidRows⟩) (ei_InvalidRows : PySem.W.codeIn K (.ref cda_InvalidRows) "InvalidRows.__init__" = true)
    (lk_InvalidRows : K.lookup cda_InvalidRows = some ⟨ccl_InvalidRows, cdd_InvalidRows, .fields vs_InvalidRows, ccs_InvalidRows⟩) (v2_InvalidRows : vs_InvalidRows[2]? = some (.str file_InvalidRows tf_InvalidRows)) (fl_InvalidRows : ((PW.main.file : Str) == file_InvalidRows) = true) (lcc_InvalidRows : K.lookup cc_InvalidRows = some ⟨cl_InvalidRows, cld_InvalidRows, .cell (some (.ref C_InvalidRows)), csl_InvalidRows⟩)
    (su_InvalidRows : PySem.W.ks_superIn K C_InvalidRows C_InvalidRows "__init__" = some (some (.builtin "ValueError.__init__"))) (se_InvalidRows : PySem.W.mroIn K C_InvalidRows (.ref C_InvalidRows) = some true) (sb_InvalidRows : PySem.W.subIn K (.ref C_InvalidRows) (.type "ValueError") = some true) (op_InvalidRows : PySem.W.nsIn K cStatics "thirdparty.any" = some none) (tp_InvalidRows : (PW.main.scope.names.lookup ("super" : Str)).isSome = false)
    (sa_InvalidRows : PySem.W.findIn K (.ref C_InvalidRows) "__setattr__" = some (some (.builtin "object.__setattr__"))) (ti_InvalidRows : PySem.W.typeIn K (.ref fi_InvalidRows) = some (.type "function")) (kc_InvalidRows : PySem.W.keepIn K (.ref C_InvalidRows) = true) (ex_InvalidRows : PySem.W.subIn K (.ref C_InvalidRows) (.type "BaseException") = some true) (ty_InvalidRows : PySem.W.typeIn K (.ref C_InvalidRows) = some (.type "type"))
    (ga_InvalidRows : PySem.W.findIn K (.ref C_InvalidRows) "__getattribute__" = some (some (.builtin "BaseException.__getattribute__"))) (gg_InvalidRows : PySem.W.findIn K (.ref C_InvalidRows) "__getattr__" = some none) (hdc_InvalidRows : PySem.W.hasDictIn K C_InvalidRows = true) (ss_InvalidRows : PySem.W.subIn K (.ref C_InvalidRows) (.ref C_InvalidRows) = some true)
    (nf_InvalidRows_position : PySem.W.findIn K (.ref C_InvalidRows) "position" = some none)
    {C_InvalidKinds fi_InvalidKinds pr_InvalidKinds N_InvalidKinds cda_InvalidKinds cc_InvalidKinds : Addr} {nm_InvalidKinds q_InvalidKinds : Str} {bs_InvalidKinds : List Value} {sn_InvalidKinds : List Str} {sub_InvalidKinds : List Value} {ab_InvalidKinds : Bool} {col_InvalidKinds : Option Bool} {dd_InvalidKinds : Option Addr} {k0_InvalidKinds k1_InvalidKinds k2_InvalidKinds k3_InvalidKinds k5_InvalidKinds : Option Value} {kV_InvalidKinds doc_InvalidKinds pm_InvalidKinds ct_InvalidKinds oc_InvalidKinds ccl_InvalidKinds cl_InvalidKinds : Value} {an_InvalidKinds od_InvalidKinds cdd_InvalidKinds cld_InvalidKinds : Option Addr} {osl_InvalidKinds ccs_InvalidKinds csl_InvalidKinds : Array (Option Value)} {vs_InvalidKinds : Array Value} {file_InvalidKinds : Str} {tf_InvalidKinds : Tok}
    (a_InvalidKinds : PySem.W.nsIn K mainGlobals "InvalidKinds" = some (some (.ref C_InvalidKinds))) (lc_InvalidKinds : K.lookup C_InvalidKinds = some (excClassObj nm_InvalidKinds q_InvalidKinds C_InvalidKinds N_InvalidKinds bs_InvalidKinds (.ref pr_InvalidKinds :: [.type "ValueError", .type "Exception", .type "BaseException", .type "object"]) true sn_InvalidKinds sub_InvalidKinds ab_InvalidKinds col_InvalidKinds dd_InvalidKinds k0_InvalidKinds k1_InvalidKinds k2_InvalidKinds k3_InvalidKinds k5_InvalidKinds "ValueError.__new__"))
    (ii_InvalidKinds : PySem.W.findIn K (.ref C_InvalidKinds) "__init__" = some (some (.ref fi_InvalidKinds))) (li_InvalidKinds : K.lookup fi_InvalidKinds = some ⟨oc_InvalidKinds, od_InvalidKinds, .func (PySem.W.ksFn "__init__" "InvalidKinds.__init__" (defArgs s_InvalidKinds_init) (defBody s_InvalidKinds_init) (defScope s_InvalidKinds_init) .none kV_InvalidKinds doc_InvalidKinds pm_InvalidKinds an_InvalidKinds (.ref cda_InvalidKinds) ct_InvalidKinds cc_InvalidKinds), osl_InvalidKinds⟩) (ei_InvalidKinds : PySem.W.codeIn K (.ref cda_InvalidKinds) "InvalidKinds.__init__" = true)
    (lk_InvalidKinds : K.lookup cda_InvalidKinds = some ⟨ccl_InvalidKinds, cdd_InvalidKinds, .fields vs_InvalidKinds, ccs_InvalidKinds⟩) (v2_InvalidKinds : vs_InvalidKinds[2]? = some (.str file_InvalidKinds tf_InvalidKinds)) (fl_InvalidKinds : ((PW.main.file : Str) == file_InvalidKinds) = true) (lcc_InvalidKinds : K.lookup cc_InvalidKinds = some ⟨cl_InvalidKinds, cld_InvalidKinds, .cell (some (.ref C_InvalidKinds)), csl_InvalidKinds⟩)
    (su_InvalidKinds : PySem.W.ks_superIn K C_InvalidKinds C_InvalidKinds "__init__" = some (some (.builtin "ValueError.__init__"))) (se_InvalidKinds : PySem.W.mroIn K C_InvalidKinds (.ref C_InvalidKinds) = some true) (sb_InvalidKinds : PySem.W.subIn K (.ref C_InvalidKinds) (.type "ValueError") = some true) (op_InvalidKinds : PySem.W.nsIn K cStatics "thirdparty.any" = some none) (tp_InvalidKinds : (PW.main.scope.names.lookup ("super" : Str)).isSome = false)
    (sa_InvalidKinds : PySem.W.findIn K (.ref C_InvalidKinds) "__setattr__" = some (some (.builtin "object.__setattr__"))) (ti_InvalidKinds : PySem.W.typeIn K (.ref fi_InvalidKinds) = some (.type "function")) (kc_InvalidKinds : PySem.W.keepIn K (.ref C_InvalidKinds) = true) (ex_InvalidKinds : PySem.W.subIn K (.ref C_InvalidKinds) (.type "BaseException") = some true) (ty_InvalidKinds : PySem.W.typeIn K (.ref C_InvalidKinds) = some (.type "type"))
    (ga_InvalidKinds : PySem.W.findIn K (.ref C_InvalidKinds) "__getattribute__" = some (some (.builtin "BaseException.__getattribute__"))) (gg_InvalidKinds : PySem.W.findIn K (.ref C_InvalidKinds) "__getattr__" = some none) (hdc_InvalidKinds : PySem.W.hasDictIn K C_InvalidKinds = true) (ss_InvalidKinds : PySem.W.subIn K (.ref C_InvalidKinds) (.ref C_InvalidKinds) = some true)
    (nf_InvalidKinds_position : PySem.W.findIn K (.ref C_InvalidKinds) "position" = some none)
    {C_InvalidProducts fi_InvalidProducts pr_InvalidProducts N_InvalidProducts cda_InvalidProducts cc_InvalidProducts : Addr} {nm_InvalidProducts q_InvalidProducts : Str} {bs_InvalidProducts : List Value} {sn_InvalidProducts : List Str} {sub_InvalidProducts : List Value} {ab_InvalidProducts : Bool} {col_InvalidProducts : Option Bool} {dd_InvalidProducts : Option Addr} {k0_InvalidProducts k1_InvalidProducts k2_InvalidProducts k3_InvalidProducts k5_InvalidProducts : Option Value} {kV_InvalidProducts doc_InvalidProducts pm_InvalidProducts ct_InvalidProducts oc_InvalidProducts ccl_InvalidProducts cl_InvalidProducts : Value} {an_InvalidProducts od_InvalidProducts cdd_InvalidProducts cld_InvalidProducts : Option Addr} {osl_InvalidProducts ccs_InvalidProducts csl_InvalidProducts : Array (Option Value)} {vs_InvalidProducts : Array Value} {file_InvalidProducts : Str} {tf_InvalidProducts : Tok}
    (a_InvalidProducts : PySem.W.nsIn K mainGlobals "InvalidProducts" = some (some (.ref C_InvalidProducts))) (lc_InvalidProducts : K.lookup C_InvalidProducts = some (excClassObj nm_InvalidProducts q_InvalidProducts C_InvalidProducts N_InvalidProducts bs_InvalidProducts (.ref pr_InvalidProducts :: [.type "ValueError", .type "Exception", .type "BaseException", .type "object"]) true sn_InvalidProducts sub_InvalidProducts ab_InvalidProducts col_InvalidProducts dd_InvalidProducts k0_InvalidProducts k1_InvalidProducts k2_InvalidProducts k3_InvalidProducts k5_InvalidProducts "ValueError.__new__"))
    (ii_InvalidProducts : PySem.W.findIn K (.ref C_InvalidProducts) "__init__" = some (some (.ref fi_InvalidProducts))) (li_InvalidProducts : K.lookup fi_InvalidProducts = some ⟨oc_InvalidProducts, od_InvalidProducts, .func (PySem.W.ksFn "__init__" "InvalidProducts.__init__" (defArgs s_InvalidProducts_init) (defBody s_InvalidProducts_init) (defScope s_InvalidProducts_init) .none kV_InvalidProducts doc_InvalidProducts pm_InvalidProducts an_InvalidProducts (.ref cda_InvalidProducts) ct_InvalidProducts cc_InvalidProducts), osl_InvalidProducts⟩) (ei_InvalidProducts : PySem.W.codeIn K (.ref cda_InvalidProducts) "InvalidProducts.__init__" = true)
    (lk_InvalidProducts : K.lookup cda_InvalidProducts = some ⟨ccl_InvalidProducts, cdd_InvalidProducts, .fields vs_InvalidProducts, ccs_InvalidProducts⟩) (v2_InvalidProducts : vs_InvalidProducts[2]? = some (.str file_InvalidProducts tf_InvalidProducts)) (fl_InvalidProducts : ((PW.main.file : Str) == file_InvalidProducts) = true) (lcc_InvalidProducts : K.lookup cc_InvalidProducts = some ⟨cl_InvalidProducts, cld_InvalidProducts, .cell (some (.ref C_InvalidProducts)), csl_InvalidProducts⟩)
    (su_InvalidProducts : PySem.W.ks_superIn K C_InvalidProducts C_InvalidProducts "__init__" = some (some (.builtin "ValueError.__init__"))) (se_InvalidProducts : PySem.W.mroIn K C_InvalidProducts (.ref C_InvalidProducts) = some true) (sb_InvalidProducts : PySem.W.subIn K (.ref C_InvalidProducts) (.type "ValueError") = some true) (op_InvalidProducts : PySem.W.nsIn K cStatics "thirdparty.any" = some none) (tp_InvalidProducts : (PW.main.scope.names.lookup ("super" : Str)).isSome = false)
    (sa_InvalidProducts : PySem.W.findIn K (.ref C_InvalidProducts) "__setattr__" = some (some (.builtin "object.__setattr__"))) (ti_InvalidProducts : PySem.W.typeIn K (.ref fi_InvalidProducts) = some (.type "function")) (kc_InvalidProducts : PySem.W.keepIn K (.ref C_InvalidProducts) = true) (ex_InvalidProducts : PySem.W.subIn K (.ref C_InvalidProducts) (.type "BaseException") = some true) (ty_InvalidProducts : PySem.W.typeIn K (.ref C_InvalidProducts) = some (.type "type"))
    (ga_InvalidProducts : PySem.W.findIn K (.ref C_InvalidProducts) "__getattribute__" = some (some (.builtin "BaseException.__getattribute__"))) (gg_InvalidProducts : PySem.W.findIn K (.ref C_InvalidProducts) "__getattr__" = some none) (hdc_InvalidProducts : PySem.W.hasDictIn K C_InvalidProducts = true) (ss_InvalidProducts : PySem.W.subIn K (.ref C_InvalidProducts) (.ref C_InvalidProducts) = some true)
    (nf_InvalidProducts_position : PySem.W.findIn K (.ref C_InvalidProducts) "position" = some none)
    {C_InvalidTexts fi_InvalidTexts pr_InvalidTexts N_InvalidTexts cda_InvalidTexts cc_InvalidTexts : Addr} {nm_InvalidTexts q_InvalidTexts : Str} {bs_InvalidTexts : List Value} {sn_InvalidTexts : List Str} {sub_InvalidTexts : List Value} {ab_InvalidTexts : Bool} {col_InvalidTexts : Option Bool} {dd_InvalidTexts : Option Addr} {k0_InvalidTexts k1_InvalidTexts k2_InvalidTexts k3_InvalidTexts k5_InvalidTexts : Option Value} {kV_InvalidTexts doc_InvalidTexts pm_InvalidTexts ct_InvalidTexts oc_InvalidTexts ccl_InvalidTexts cl_InvalidTexts : Value} {an_InvalidTexts od_InvalidTexts cdd_InvalidTexts cld_InvalidTexts : Option Addr} {osl_InvalidTexts ccs_InvalidTexts csl_InvalidTexts : Array (Option Value)} {vs_InvalidTexts : Array Value} {file_InvalidTexts : Str} {tf_InvalidTexts : Tok}
    (a_InvalidTexts : PySem.W.nsIn K mainGlobals "InvalidTexts" = some (some (.ref C_InvalidTexts))) (lc_InvalidTexts : K.lookup C_InvalidTexts = some (excClassObj nm_InvalidTexts q_InvalidTexts C_InvalidTexts N_InvalidTexts bs_InvalidTexts (.ref pr_InvalidTexts :: [.type "ValueError", .type "Exception", .type "BaseException", .type "object"]) true sn_InvalidTexts sub_InvalidTexts ab_InvalidTexts col_InvalidTexts dd_InvalidTexts k0_InvalidTexts k1_InvalidTexts k2_InvalidTexts k3_InvalidTexts k5_InvalidTexts "ValueError.__new__"))
    (ii_InvalidTexts : PySem.W.findIn K (.ref C_InvalidTexts) "__init__" = some (some (.ref fi_InvalidTexts))) (li_InvalidTexts : K.lookup fi_InvalidTexts = some ⟨oc_InvalidTexts, od_InvalidTexts, .func (PySem.W.ksFn "__init__" "InvalidTexts.__init__" (defArgs s_InvalidTexts_init) (defBody s_InvalidTexts_init) (defScope s_InvalidTexts_init) .none kV_InvalidTexts doc_InvalidTexts pm_InvalidTexts an_InvalidTexts (.ref cda_InvalidTexts) ct_InvalidTexts cc_InvalidTexts), osl_InvalidTexts⟩) (ei_InvalidTexts : PySem.W.codeIn K (.ref cda_InvalidTexts) "InvalidTexts.__init__" = true)
    (lk_InvalidTexts : K.lookup cda_InvalidTexts = some ⟨ccl_InvalidTexts, cdd_InvalidTexts, .fields vs_InvalidTexts, ccs_InvalidTexts⟩) (v2_InvalidTexts : vs_InvalidTexts[2]? = some (.str file_InvalidTexts tf_InvalidTexts)) (fl_InvalidTexts : ((PW.main.file : Str) == file_InvalidTexts) = true) (lcc_InvalidTexts : K.lookup cc_InvalidTexts = some ⟨cl_InvalidTexts, cld_InvalidTexts, .cell (some (.ref C_InvalidTexts)), csl_InvalidTexts⟩)
    (su_InvalidTexts : PySem.W.ks_superIn K C_InvalidTexts C_InvalidTexts "__init__" = some (some (.builtin "ValueError.__init__"))) (se_InvalidTexts : PySem.W.mroIn K C_InvalidTexts (.ref C_InvalidTexts) = some true) (sb_InvalidTexts : PySem.W.subIn K (.ref C_InvalidTexts) (.type "ValueError") = some true) (op_InvalidTexts : PySem.W.nsIn K cStatics "thirdparty.any" = some none) (tp_InvalidTexts : (PW.main.scope.names.lookup ("super" : Str)).isSome = false)
    (sa_InvalidTexts : PySem.W.findIn K (.ref C_InvalidTexts) "__setattr__" = some (some (.builtin "object.__setattr__"))) (ti_InvalidTexts : PySem.W.typeIn K (.ref fi_InvalidTexts) = some (.type "function")) (kc_InvalidTexts : PySem.W.keepIn K (.ref C_InvalidTexts) = true) (ex_InvalidTexts : PySem.W.subIn K (.ref C_InvalidTexts) (.type "BaseException") = some true) (ty_InvalidTexts : PySem.W.typeIn K (.ref C_InvalidTexts) = some (.type "type"))
    (ga_InvalidTexts : PySem.W.findIn K (.ref C_InvalidTexts) "__getattribute__" = some (some (.builtin "BaseException.__getattribute__"))) (gg_InvalidTexts : PySem.W.findIn K (.ref C_InvalidTexts) "__getattr__" = some none) (hdc_InvalidTexts : PySem.W.hasDictIn K C_InvalidTexts = true) (ss_InvalidTexts : PySem.W.subIn K (.ref C_InvalidTexts) (.ref C_InvalidTexts) = some true)
    (nf_InvalidTexts_position : PySem.W.findIn K (.ref C_InvalidTexts) "position" = some none)
    {C_InvalidPlaces fi_InvalidPlaces pr_InvalidPlaces N_InvalidPlaces cda_InvalidPlaces cc_InvalidPlaces : Addr} {nm_InvalidPlaces q_InvalidPlaces : Str} {bs_InvalidPlaces : List Value} {sn_InvalidPlaces : List Str} {sub_InvalidPlaces : List Value} {ab_InvalidPlaces : Bool} {col_InvalidPlaces : Option Bool} {dd_InvalidPlaces : Option Addr} {k0_InvalidPlaces k1_InvalidPlaces k2_InvalidPlaces k3_InvalidPlaces k5_InvalidPlaces : Option Value} {kV_InvalidPlaces doc_InvalidPlaces pm_InvalidPlaces ct_InvalidPlaces oc_InvalidPlaces ccl_InvalidPlaces cl_InvalidPlaces : Value} {an_InvalidPlaces od_InvalidPlaces cdd_InvalidPlaces cld_InvalidPlaces : Option Addr} {osl_InvalidPlaces ccs_InvalidPlaces csl_InvalidPlaces : Array (Option Value)} {vs_InvalidPlaces : Array Value} {file_InvalidPlaces : Str} {tf_InvalidPlaces : Tok}
    (a_InvalidPlaces : PySem.W.nsIn K mainGlobals "InvalidPlaces" = some (some (.ref C_InvalidPlaces))) (lc_InvalidPlaces : K.lookup C_InvalidPlaces = some (excClassObj nm_InvalidPlaces q_InvalidPlaces C_InvalidPlaces N_InvalidPlaces bs_InvalidPlaces (.ref pr_InvalidPlaces :: [.type "ValueError", .type "Exception", .type "BaseException", .type "object"]) true sn_InvalidPlaces sub_InvalidPlaces ab_InvalidPlaces col_InvalidPlaces dd_InvalidPlaces k0_InvalidPlaces k1_InvalidPlaces k2_InvalidPlaces k3_InvalidPlaces k5_InvalidPlaces "ValueError.__new__"))
    (ii_InvalidPlaces : PySem.W.findIn K (.ref C_InvalidPlaces) "__init__" = some (some (.ref fi_InvalidPlaces))) (li_InvalidPlaces : K.lookup fi_InvalidPlaces = some ⟨oc_InvalidPlaces, od_InvalidPlaces, .func (PySem.W.ksFn "__init__" "InvalidPlaces.__init__" (defArgs s_InvalidPlaces_init) (defBody s_InvalidPlaces_init) (defScope s_InvalidPlaces_init) .none kV_InvalidPlaces doc_InvalidPlaces pm_InvalidPlaces an_InvalidPlaces (.ref cda_InvalidPlaces) ct_InvalidPlaces cc_InvalidPlaces), osl_InvalidPlaces⟩) (ei_InvalidPlaces : PySem.W.codeIn K (.ref cda_InvalidPlaces) "InvalidPlaces.__init__" = true)
    (lk_InvalidPlaces : K.lookup cda_InvalidPlaces = some ⟨ccl_InvalidPlaces, cdd_InvalidPlaces, .fields vs_InvalidPlaces, ccs_InvalidPlaces⟩) (v2_InvalidPlaces : vs_InvalidPlaces[2]? = some (.str file_InvalidPlaces tf_InvalidPlaces)) (fl_InvalidPlaces : ((PW.main.file : Str) == file_InvalidPlaces) = true) (lcc_InvalidPlaces : K.lookup cc_InvalidPlaces = some ⟨cl_InvalidPlaces, cld_InvalidPlaces, .cell (some (.ref C_InvalidPlaces)), csl_InvalidPlaces⟩)
    (su_InvalidPlaces : PySem.W.ks_superIn K C_InvalidPlaces C_InvalidPlaces "__init__" = some (some (.builtin "ValueError.__init__"))) (se_InvalidPlaces : PySem.W.mroIn K C_InvalidPlaces (.ref C_InvalidPlaces) = some true) (sb_InvalidPlaces : PySem.W.subIn K (.ref C_InvalidPlaces) (.type "ValueError") = some true) (op_InvalidPlaces : PySem.W.nsIn K cStatics "thirdparty.any" = some none) (tp_InvalidPlaces : (PW.main.scope.names.lookup ("super" : Str)).isSome = false)
    (sa_InvalidPlaces : PySem.W.findIn K (.ref C_InvalidPlaces) "__setattr__" = some (some (.builtin "object.__setattr__"))) (ti_InvalidPlaces : PySem.W.typeIn K (.ref fi_InvalidPlaces) = some (.type "function")) (kc_InvalidPlaces : PySem.W.keepIn K (.ref C_InvalidPlaces) = true) (ex_InvalidPlaces : PySem.W.subIn K (.ref C_InvalidPlaces) (.type "BaseException") = some true) (ty_InvalidPlaces : PySem.W.typeIn K (.ref C_InvalidPlaces) = some (.type "type"))
    (ga_InvalidPlaces : PySem.W.findIn K (.ref C_InvalidPlaces) "__getattribute__" = some (some (.builtin "BaseException.__getattribute__"))) (gg_InvalidPlaces : PySem.W.findIn K (.ref C_InvalidPlaces) "__getattr__" = some none) (hdc_InvalidPlaces : PySem.W.hasDictIn K C_InvalidPlaces = true) (ss_InvalidPlaces : PySem.W.subIn K (.ref C_InvalidPlaces) (.ref C_InvalidPlaces) = some true)
    (nf_InvalidPlaces_position : PySem.W.findIn K (.ref C_InvalidPlaces) "position" = some none)
    {C_InvalidLevels fi_InvalidLevels pr_InvalidLevels N_InvalidLevels cda_InvalidLevels cc_InvalidLevels : Addr} {nm_InvalidLevels q_InvalidLevels : Str} {bs_InvalidLevels : List Value} {sn_InvalidLevels : List Str} {sub_InvalidLevels : List Value} {ab_InvalidLevels : Bool} {col_InvalidLevels : Option Bool} {dd_InvalidLevels : Option Addr} {k0_InvalidLevels k1_InvalidLevels k2_InvalidLevels k3_InvalidLevels k5_InvalidLevels : Option Value} {kV_InvalidLevels doc_InvalidLevels pm_InvalidLevels ct_InvalidLevels oc_InvalidLevels ccl_InvalidLevels cl_InvalidLevels : Value} {an_InvalidLevels od_InvalidLevels cdd_InvalidLevels cld_InvalidLevels : Option Addr} {osl_InvalidLevels ccs_InvalidLevels csl_InvalidLevels : Array (Option Value)} {vs_InvalidLevels : Array Value} {file_InvalidLevels : Str} {tf_InvalidLevels : Tok}
    (a_InvalidLevels : PySem.W.nsIn K mainGlobals "InvalidLevels" = some (some (.ref C_InvalidLevels))) (lc_InvalidLevels : K.lookup C_InvalidLevels = some (excClassObj nm_InvalidLevels q_InvalidLevels C_InvalidLevels N_InvalidLevels bs_InvalidLevels (.ref pr_InvalidLevels :: [.type "ValueError", .type "Exception", .type "BaseException", .type "object"]) true sn_InvalidLevels sub_InvalidLevels ab_InvalidLevels col_InvalidLevels dd_InvalidLevels k0_InvalidLevels k1_InvalidLevels k2_InvalidLevels k3_InvalidLevels k5_InvalidLevels "ValueError.__new__"))
    (ii_InvalidLevels : PySem.W.findIn K (.ref C_InvalidLevels) "__init__" = some (some (.ref fi_InvalidLevels))) (li_InvalidLevels : K.lookup fi_InvalidLevels = some ⟨oc_InvalidLevels, od_InvalidLevels, .func (PySem.W.ksFn "__init__" "InvalidLevels.__init__" (defArgs s_InvalidLevels_init) (defBody s_InvalidLevels_init) (defScope s_InvalidLevels_init) .none kV_InvalidLevels doc_InvalidLevels pm_InvalidLevels an_InvalidLevels (.ref cda_InvalidLevels) ct_InvalidLevels cc_InvalidLevels), osl_InvalidLevels⟩) (ei_InvalidLevels : PySem.W.codeIn K (.ref cda_InvalidLevels) "InvalidLevels.__init__" = true)
    (lk_InvalidLevels : K.lookup cda_InvalidLevels = some ⟨ccl_InvalidLevels, cdd_InvalidLevels, .fields vs_InvalidLevels, ccs_InvalidLevels⟩) (v2_InvalidLevels : vs_InvalidLevels[2]? = some (.str file_InvalidLevels tf_InvalidLevels)) (fl_InvalidLevels : ((PW.main.file : Str) == file_InvalidLevels) = true) (lcc_InvalidLevels : K.lookup cc_InvalidLevels = some ⟨cl_InvalidLevels, cld_InvalidLevels, .cell (some (.ref C_InvalidLevels)), csl_InvalidLevels⟩)
    (su_InvalidLevels : PySem.W.ks_superIn K C_InvalidLevels C_InvalidLevels "__init__" = some (some (.builtin "ValueError.__init__"))) (se_InvalidLevels : PySem.W.mroIn K C_InvalidLevels (.ref C_InvalidLevels) = some true) (sb_InvalidLevels : PySem.W.subIn K (.ref C_InvalidLevels) (.type "ValueError") = some true) (op_InvalidLevels : PySem.W.nsIn K cStatics "thirdparty.any" = some none) (tp_InvalidLevels : (PW.main.scope.names.lookup ("super" : Str)).isSome = false)
    (sa_InvalidLevels : PySem.W.findIn K (.ref C_InvalidLevels) "__setattr__" = some (some (.builtin "object.__setattr__"))) (ti_InvalidLevels : PySem.W.typeIn K (.ref fi_InvalidLevels) = some (.type "function")) (kc_InvalidLevels : PySem.W.keepIn K (.ref C_InvalidLevels) = true) (ex_InvalidLevels : PySem.W.subIn K (.ref C_InvalidLevels) (.type "BaseException") = some true) (ty_InvalidLevels : PySem.W.typeIn K (.ref C_InvalidLevels) = some (.type "type"))
    (ga_InvalidLevels : PySem.W.findIn K (.ref C_InvalidLevels) "__getattribute__" = some (some (.builtin "BaseException.__getattribute__"))) (gg_InvalidLevels : PySem.W.findIn K (.ref C_InvalidLevels) "__getattr__" = some none) (hdc_InvalidLevels : PySem.W.hasDictIn K C_InvalidLevels = true) (ss_InvalidLevels : PySem.W.subIn K (.ref C_InvalidLevels) (.ref C_InvalidLevels) = some true)
    (nf_InvalidLevels_position : PySem.W.findIn K (.ref C_InvalidLevels) "position" = some none)
    {C_InvalidRow fi_InvalidRow pr_InvalidRow N_InvalidRow cda_InvalidRow cc_InvalidRow : Addr} {nm_InvalidRow q_InvalidRow : Str} {bs_InvalidRow : List Value} {sn_InvalidRow : List Str} {sub_InvalidRow : List Value} {ab_InvalidRow : Bool} {col_InvalidRow : Option Bool} {dd_InvalidRow : Option Addr} {k0_InvalidRow k1_InvalidRow k2_InvalidRow k3_InvalidRow k5_InvalidRow : Option Value} {kV_InvalidRow doc_InvalidRow pm_InvalidRow ct_InvalidRow oc_InvalidRow ccl_InvalidRow cl_InvalidRow : Value} {an_InvalidRow od_InvalidRow cdd_InvalidRow cld_InvalidRow : Option Addr} {osl_InvalidRow ccs_InvalidRow csl_InvalidRow : Array (Option Value)} {vs_InvalidRow : Array Value} {file_InvalidRow : Str} {tf_InvalidRow : Tok}
    (a_InvalidRow : PySem.W.nsIn K mainGlobals "InvalidRow" = some (some (.ref C_InvalidRow))) (lc_InvalidRow : K.lookup C_InvalidRow = some (excClassObj nm_InvalidRow q_InvalidRow C_InvalidRow N_InvalidRow bs_InvalidRow (.ref pr_InvalidRow :: [.type "ValueError", .type "Exception", .type "BaseException", .type "object"]) true sn_InvalidRow sub_InvalidRow ab_InvalidRow col_InvalidRow dd_InvalidRow k0_InvalidRow k1_InvalidRow k2_InvalidRow k3_InvalidRow k5_InvalidRow "ValueError.__new__"))
    (ii_InvalidRow : PySem.W.findIn K (.ref C_InvalidRow) "__init__" = some (some (.ref fi_InvalidRow))) (li_InvalidRow : K.lookup fi_InvalidRow = some ⟨oc_InvalidRow, od_InvalidRow, .func (PySem.W.ksFn "__init__" "InvalidRow.__init__" (defArgs s_InvalidRow_init) (defBody s_InvalidRow_init) (defScope s_InvalidRow_init) .none kV_InvalidRow doc_InvalidRow pm_InvalidRow an_InvalidRow (.ref cda_InvalidRow) ct_InvalidRow cc_InvalidRow), osl_InvalidRow⟩) (ei_InvalidRow : PySem.W.codeIn K (.ref cda_InvalidRow) "InvalidRow.__init__" = true)
    (lk_InvalidRow : K.lookup cda_InvalidRow = some ⟨ccl_InvalidRow, cdd_InvalidRow, .fields vs_InvalidRow, ccs_InvalidRow⟩) (v2_InvalidRow : vs_InvalidRow[2]? = some (.str file_InvalidRow tf_InvalidRow)) (fl_InvalidRow : ((PW.main.file : Str) == file_InvalidRow) = true) (lcc_InvalidRow : K.lookup cc_InvalidRow = some ⟨cl_InvalidRow, cld_InvalidRow, .cell (some (.ref C_InvalidRow)), csl_InvalidRow⟩)
    (su_InvalidRow : PySem.W.ks_superIn K C_InvalidRow C_InvalidRow "__init__" = some (some (.builtin "ValueError.__init__"))) (se_InvalidRow : PySem.W.mroIn K C_InvalidRow (.ref C_InvalidRow) = some true) (sb_InvalidRow : PySem.W.subIn K (.ref C_InvalidRow) (.type "ValueError") = some true) (op_InvalidRow : PySem.W.nsIn K cStatics "thirdparty.any" = some none) (tp_InvalidRow : (PW.main.scope.names.lookup ("super" : Str)).isSome = false)
    (sa_InvalidRow : PySem.W.findIn K (.ref C_InvalidRow) "__setattr__" = some (some (.builtin "object.__setattr__"))) (ti_InvalidRow : PySem.W.typeIn K (.ref fi_InvalidRow) = some (.type "function")) (kc_InvalidRow : PySem.W.keepIn K (.ref C_InvalidRow) = true) (ex_InvalidRow : PySem.W.subIn K (.ref C_InvalidRow) (.type "BaseException") = some true) (ty_InvalidRow : PySem.W.typeIn K (.ref C_InvalidRow) = some (.type "type"))
    (ga_InvalidRow : PySem.W.findIn K (.ref C_InvalidRow) "__getattribute__" = some (some (.builtin "BaseException.__getattribute__"))) (gg_InvalidRow : PySem.W.findIn K (.ref C_InvalidRow) "__getattr__" = some none) (hdc_InvalidRow : PySem.W.hasDictIn K C_InvalidRow = true) (ss_InvalidRow : PySem.W.subIn K (.ref C_InvalidRow) (.ref C_InvalidRow) = some true)
    (nf_InvalidRow_row : PySem.W.findIn K (.ref C_InvalidRow) "row" = some none)
    {C_OtherLetters fi_OtherLetters pr_OtherLetters N_OtherLetters cda_OtherLetters cc_OtherLetters : Addr} {nm_OtherLetters q_OtherLetters : Str} {bs_OtherLetters : List Value} {sn_OtherLetters : List Str} {sub_OtherLetters : List Value} {ab_OtherLetters : Bool} {col_OtherLetters : Option Bool} {dd_OtherLetters : Option Addr} {k0_OtherLetters k1_OtherLetters k2_OtherLetters k3_OtherLetters k5_OtherLetters : Option Value} {kV_OtherLetters doc_OtherLetters pm_OtherLetters ct_OtherLetters oc_OtherLetters ccl_OtherLetters cl_OtherLetters : Value} {an_OtherLetters od_OtherLetters cdd_OtherLetters cld_OtherLetters : Option Addr} {osl_OtherLetters ccs_OtherLetters csl_OtherLetters : Array (Option Value)} {vs_OtherLetters : Array Value} {file_OtherLetters : Str} {tf_OtherLetters : Tok}
    (a_OtherLetters : PySem.W.nsIn K mainGlobals "OtherLetters" = some (some (.ref C_OtherLetters))) (lc_OtherLetters : K.lookup C_OtherLetters = some (excClassObj nm_OtherLetters q_OtherLetters C_OtherLetters N_OtherLetters bs_OtherLetters (.ref pr_OtherLetters :: [.type "RuntimeError", .type "Exception", .type "BaseException", .type "object"]) true sn_OtherLetters sub_OtherLetters ab_OtherLetters col_OtherLetters dd_OtherLetters k0_OtherLetters k1_OtherLetters k2_OtherLetters k3_OtherLetters k5_OtherLetters "RuntimeError.__new__"))
    (ii_OtherLetters : PySem.W.findIn K (.ref C_OtherLetters) "__init__" = some (some (.ref fi_OtherLetters))) (li_OtherLetters : K.lookup fi_OtherLetters = some ⟨oc_OtherLetters, od_OtherLetters, .func (PySem.W.ksFn "__init__" "OtherLetters.__init__" (defArgs s_OtherLetters_init) (defBody s_OtherLetters_init) (defScope s_OtherLetters_init) .none kV_OtherLetters doc_OtherLetters pm_OtherLetters an_OtherLetters (.ref cda_OtherLetters) ct_OtherLetters cc_OtherLetters), osl_OtherLetters⟩) (ei_OtherLetters : PySem.W.codeIn K (.ref cda_OtherLetters) "OtherLetters.__init__" = true)
    (lk_OtherLetters : K.lookup cda_OtherLetters = some ⟨ccl_OtherLetters, cdd_OtherLetters, .fields vs_OtherLetters, ccs_OtherLetters⟩) (v2_OtherLetters : vs_OtherLetters[2]? = some (.str file_OtherLetters tf_OtherLetters)) (fl_OtherLetters : ((PW.main.file : Str) == file_OtherLetters) = true) (lcc_OtherLetters : K.lookup cc_OtherLetters = some ⟨cl_OtherLetters, cld_OtherLetters, .cell (some (.ref C_OtherLetters)), csl_OtherLetters⟩)
    (su_OtherLetters : PySem.W.ks_superIn K C_OtherLetters C_OtherLetters "__init__" = some (some (.builtin "RuntimeError.__init__"))) (se_OtherLetters : PySem.W.mroIn K C_OtherLetters (.ref C_OtherLetters) = some true) (sb_OtherLetters : PySem.W.subIn K (.ref C_OtherLetters) (.type "RuntimeError") = some true) (op_OtherLetters : PySem.W.nsIn K cStatics "thirdparty.any" = some none) (tp_OtherLetters : (PW.main.scope.names.lookup ("super" : Str)).isSome = false)
    (sa_OtherLetters : PySem.W.findIn K (.ref C_OtherLetters) "__setattr__" = some (some (.builtin "object.__setattr__"))) (ti_OtherLetters : PySem.W.typeIn K (.ref fi_OtherLetters) = some (.type "function")) (kc_OtherLetters : PySem.W.keepIn K (.ref C_OtherLetters) = true) (ex_OtherLetters : PySem.W.subIn K (.ref C_OtherLetters) (.type "BaseException") = some true) (ty_OtherLetters : PySem.W.typeIn K (.ref C_OtherLetters) = some (.type "type"))
    (ga_OtherLetters : PySem.W.findIn K (.ref C_OtherLetters) "__getattribute__" = some (some (.builtin "BaseException.__getattribute__"))) (gg_OtherLetters : PySem.W.findIn K (.ref C_OtherLetters) "__getattr__" = some none) (hdc_OtherLetters : PySem.W.hasDictIn K C_OtherLetters = true) (ss_OtherLetters : PySem.W.subIn K (.ref C_OtherLetters) (.ref C_OtherLetters) = some true)
    (nf_OtherLetters_one : PySem.W.findIn K (.ref C_OtherLetters) "one" = some none)
    (nf_OtherLetters_other : PySem.W.findIn K (.ref C_OtherLetters) "other" = some none)
    {C_NotComeTo fi_NotComeTo pr_NotComeTo N_NotComeTo cda_NotComeTo cc_NotComeTo : Addr} {nm_NotComeTo q_NotComeTo : Str} {bs_NotComeTo : List Value} {sn_NotComeTo : List Str} {sub_NotComeTo : List Value} {ab_NotComeTo : Bool} {col_NotComeTo : Option Bool} {dd_NotComeTo : Option Addr} {k0_NotComeTo k1_NotComeTo k2_NotComeTo k3_NotComeTo k5_NotComeTo : Option Value} {kV_NotComeTo doc_NotComeTo pm_NotComeTo ct_NotComeTo oc_NotComeTo ccl_NotComeTo cl_NotComeTo : Value} {an_NotComeTo od_NotComeTo cdd_NotComeTo cld_NotComeTo : Option Addr} {osl_NotComeTo ccs_NotComeTo csl_NotComeTo : Array (Option Value)} {vs_NotComeTo : Array Value} {file_NotComeTo : Str} {tf_NotComeTo : Tok}
    (a_NotComeTo : PySem.W.nsIn K mainGlobals "NotComeTo" = some (some (.ref C_NotComeTo))) (lc_NotComeTo : K.lookup C_NotComeTo = some (excClassObj nm_NotComeTo q_NotComeTo C_NotComeTo N_NotComeTo bs_NotComeTo (.ref pr_NotComeTo :: [.type "RuntimeError", .type "Exception", .type "BaseException", .type "object"]) true sn_NotComeTo sub_NotComeTo ab_NotComeTo col_NotComeTo dd_NotComeTo k0_NotComeTo k1_NotComeTo k2_NotComeTo k3_NotComeTo k5_NotComeTo "RuntimeError.__new__"))
    (ii_NotComeTo : PySem.W.findIn K (.ref C_NotComeTo) "__init__" = some (some (.ref fi_NotComeTo))) (li_NotComeTo : K.lookup fi_NotComeTo = some ⟨oc_NotComeTo, od_NotComeTo, .func (PySem.W.ksFn "__init__" "NotComeTo.__init__" (defArgs s_NotComeTo_init) (defBody s_NotComeTo_init) (defScope s_NotComeTo_init) .none kV_NotComeTo doc_NotComeTo pm_NotComeTo an_NotComeTo (.ref cda_NotComeTo) ct_NotComeTo cc_NotComeTo), osl_NotComeTo⟩) (ei_NotComeTo : PySem.W.codeIn K (.ref cda_NotComeTo) "NotComeTo.__init__" = true)
    (lk_NotComeTo : K.lookup cda_NotComeTo = some ⟨ccl_NotComeTo, cdd_NotComeTo, .fields vs_NotComeTo, ccs_NotComeTo⟩) (v2_NotComeTo : vs_NotComeTo[2]? = some (.str file_NotComeTo tf_NotComeTo)) (fl_NotComeTo : ((PW.main.file : Str) == file_NotComeTo) = true) (lcc_NotComeTo : K.lookup cc_NotComeTo = some ⟨cl_NotComeTo, cld_NotComeTo, .cell (some (.ref C_NotComeTo)), csl_NotComeTo⟩)
    (su_NotComeTo : PySem.W.ks_superIn K C_NotComeTo C_NotComeTo "__init__" = some (some (.builtin "RuntimeError.__init__"))) (se_NotComeTo : PySem.W.mroIn K C_NotComeTo (.ref C_NotComeTo) = some true) (sb_NotComeTo : PySem.W.subIn K (.ref C_NotComeTo) (.type "RuntimeError") = some true) (op_NotComeTo : PySem.W.nsIn K cStatics "thirdparty.any" = some none) (tp_NotComeTo : (PW.main.scope.names.lookup ("super" : Str)).isSome = false)
    (sa_NotComeTo : PySem.W.findIn K (.ref C_NotComeTo) "__setattr__" = some (some (.builtin "object.__setattr__"))) (ti_NotComeTo : PySem.W.typeIn K (.ref fi_NotComeTo) = some (.type "function")) (kc_NotComeTo : PySem.W.keepIn K (.ref C_NotComeTo) = true) (ex_NotComeTo : PySem.W.subIn K (.ref C_NotComeTo) (.type "BaseException") = some true) (ty_NotComeTo : PySem.W.typeIn K (.ref C_NotComeTo) = some (.type "type"))
    (ga_NotComeTo : PySem.W.findIn K (.ref C_NotComeTo) "__getattribute__" = some (some (.builtin "BaseException.__getattribute__"))) (gg_NotComeTo : PySem.W.findIn K (.ref C_NotComeTo) "__getattr__" = some none) (hdc_NotComeTo : PySem.W.hasDictIn K C_NotComeTo = true) (ss_NotComeTo : PySem.W.subIn K (.ref C_NotComeTo) (.ref C_NotComeTo) = some true)
    (nf_NotComeTo_place : PySem.W.findIn K (.ref C_NotComeTo) "place" = some none)
    {C_NeverHeard fi_NeverHeard pr_NeverHeard N_NeverHeard cda_NeverHeard cc_NeverHeard : Addr} {nm_NeverHeard q_NeverHeard : Str} {bs_NeverHeard : List Value} {sn_NeverHeard : List Str} {sub_NeverHeard : List Value} {ab_NeverHeard : Bool} {col_NeverHeard : Option Bool} {dd_NeverHeard : Option Addr} {k0_NeverHeard k1_NeverHeard k2_NeverHeard k3_NeverHeard k5_NeverHeard : Option Value} {kV_NeverHeard doc_NeverHeard pm_NeverHeard ct_NeverHeard oc_NeverHeard ccl_NeverHeard cl_NeverHeard : Value} {an_NeverHeard od_NeverHeard cdd_NeverHeard cld_NeverHeard : Option Addr} {osl_NeverHeard ccs_NeverHeard csl_NeverHeard : Array (Option Value)} {vs_NeverHeard : Array Value} {file_NeverHeard : Str} {tf_NeverHeard : Tok}
    (a_NeverHeard : PySem.W.nsIn K mainGlobals "NeverHeard" = some (some (.ref C_NeverHeard))) (lc_NeverHeard : K.lookup C_NeverHeard = some (excClassObj nm_NeverHeard q_NeverHeard C_NeverHeard N_NeverHeard bs_NeverHeard (.ref pr_NeverHeard :: [.type "RuntimeError", .type "Exception", .type "BaseException", .type "object"]) true sn_NeverHeard sub_NeverHeard ab_NeverHeard col_NeverHeard dd_NeverHeard k0_NeverHeard k1_NeverHeard k2_NeverHeard k3_NeverHeard k5_NeverHeard "RuntimeError.__new__"))
    (ii_NeverHeard : PySem.W.findIn K (.ref C_NeverHeard) "__init__" = some (some (.ref fi_NeverHeard))) (li_NeverHeard : K.lookup fi_NeverHeard = some ⟨oc_NeverHeard, od_NeverHeard, .func (PySem.W.ksFn "__init__" "NeverHeard.__init__" (defArgs s_NeverHeard_init) (defBody s_NeverHeard_init) (defScope s_NeverHeard_init) .none kV_NeverHeard doc_NeverHeard pm_NeverHeard an_NeverHeard (.ref cda_NeverHeard) ct_NeverHeard cc_NeverHeard), osl_NeverHeard⟩) (ei_NeverHeard : PySem.W.codeIn K (.ref cda_NeverHeard) "NeverHeard.__init__" = true)
    (lk_NeverHeard : K.lookup cda_NeverHeard = some ⟨ccl_NeverHeard, cdd_NeverHeard, .fields vs_NeverHeard, ccs_NeverHeard⟩) (v2_NeverHeard : vs_NeverHeard[2]? = some (.str file_NeverHeard tf_NeverHeard)) (fl_NeverHeard : ((PW.main.file : Str) == file_NeverHeard) = true) (lcc_NeverHeard : K.lookup cc_NeverHeard = some ⟨cl_NeverHeard, cld_NeverHeard, .cell (some (.ref C_NeverHeard)), csl_NeverHeard⟩)
    (su_NeverHeard : PySem.W.ks_superIn K C_NeverHeard C_NeverHeard "__init__" = some (some (.builtin "RuntimeError.__init__"))) (se_NeverHeard : PySem.W.mroIn K C_NeverHeard (.ref C_NeverHeard) = some true) (sb_NeverHeard : PySem.W.subIn K (.ref C_NeverHeard) (.type "RuntimeError") = some true) (op_NeverHeard : PySem.W.nsIn K cStatics "thirdparty.any" = some none) (tp_NeverHeard : (PW.main.scope.names.lookup ("super" : Str)).isSome = false)
    (sa_NeverHeard : PySem.W.findIn K (.ref C_NeverHeard) "__setattr__" = some (some (.builtin "object.__setattr__"))) (ti_NeverHeard : PySem.W.typeIn K (.ref fi_NeverHeard) = some (.type "function")) (kc_NeverHeard : PySem.W.keepIn K (.ref C_NeverHeard) = true) (ex_NeverHeard : PySem.W.subIn K (.ref C_NeverHeard) (.type "BaseException") = some true) (ty_NeverHeard : PySem.W.typeIn K (.ref C_NeverHeard) = some (.type "type"))
    (ga_NeverHeard : PySem.W.findIn K (.ref C_NeverHeard) "__getattribute__" = some (some (.builtin "BaseException.__getattribute__"))) (gg_NeverHeard : PySem.W.findIn K (.ref C_NeverHeard) "__getattr__" = some none) (hdc_NeverHeard : PySem.W.hasDictIn K C_NeverHeard = true) (ss_NeverHeard : PySem.W.subIn K (.ref C_NeverHeard) (.ref C_NeverHeard) = some true)
    (nf_NeverHeard_value : PySem.W.findIn K (.ref C_NeverHeard) "value" = some none)
    {C_NothingToUndo fi_NothingToUndo pr_NothingToUndo N_NothingToUndo cda_NothingToUndo cc_NothingToUndo : Addr} {nm_NothingToUndo q_NothingToUndo : Str} {bs_NothingToUndo : List Value} {sn_NothingToUndo : List Str} {sub_NothingToUndo : List Value} {ab_NothingToUndo : Bool} {col_NothingToUndo : Option Bool} {dd_NothingToUndo : Option Addr} {k0_NothingToUndo k1_NothingToUndo k2_NothingToUndo k3_NothingToUndo k5_NothingToUndo : Option Value} {kV_NothingToUndo doc_NothingToUndo pm_NothingToUndo ct_NothingToUndo oc_NothingToUndo ccl_NothingToUndo cl_NothingToUndo : Value} {an_NothingToUndo od_NothingToUndo cdd_NothingToUndo cld_NothingToUndo : Option Addr} {osl_NothingToUndo ccs_NothingToUndo csl_NothingToUndo : Array (Option Value)} {vs_NothingToUndo : Array Value} {file_NothingToUndo : Str} {tf_NothingToUndo : Tok}
    (a_NothingToUndo : PySem.W.nsIn K mainGlobals "NothingToUndo" = some (some (.ref C_NothingToUndo))) (lc_NothingToUndo : K.lookup C_NothingToUndo = some (excClassObj nm_NothingToUndo q_NothingToUndo C_NothingToUndo N_NothingToUndo bs_NothingToUndo (.ref pr_NothingToUndo :: [.type "RuntimeError", .type "Exception", .type "BaseException", .type "object"]) true sn_NothingToUndo sub_NothingToUndo ab_NothingToUndo col_NothingToUndo dd_NothingToUndo k0_NothingToUndo k1_NothingToUndo k2_NothingToUndo k3_NothingToUndo k5_NothingToUndo "RuntimeError.__new__"))
    (ii_NothingToUndo : PySem.W.findIn K (.ref C_NothingToUndo) "__init__" = some (some (.ref fi_NothingToUndo))) (li_NothingToUndo : K.lookup fi_NothingToUndo = some ⟨oc_NothingToUndo, od_NothingToUndo, .func (PySem.W.ksFn "__init__" "NothingToUndo.__init__" (defArgs s_NothingToUndo_init) (defBody s_NothingToUndo_init) (defScope s_NothingToUndo_init) .none kV_NothingToUndo doc_NothingToUndo pm_NothingToUndo an_NothingToUndo (.ref cda_NothingToUndo) ct_NothingToUndo cc_NothingToUndo), osl_NothingToUndo⟩) (ei_NothingToUndo : PySem.W.codeIn K (.ref cda_NothingToUndo) "NothingToUndo.__init__" = true)
    (lk_NothingToUndo : K.lookup cda_NothingToUndo = some ⟨ccl_NothingToUndo, cdd_NothingToUndo, .fields vs_NothingToUndo, ccs_NothingToUndo⟩) (v2_NothingToUndo : vs_NothingToUndo[2]? = some (.str file_NothingToUndo tf_NothingToUndo)) (fl_NothingToUndo : ((PW.main.file : Str) == file_NothingToUndo) = true) (lcc_NothingToUndo : K.lookup cc_NothingToUndo = some ⟨cl_NothingToUndo, cld_NothingToUndo, .cell (some (.ref C_NothingToUndo)), csl_NothingToUndo⟩)
    (su_NothingToUndo : PySem.W.ks_superIn K C_NothingToUndo C_NothingToUndo "__init__" = some (some (.builtin "RuntimeError.__init__"))) (se_NothingToUndo : PySem.W.mroIn K C_NothingToUndo (.ref C_NothingToUndo) = some true) (sb_NothingToUndo : PySem.W.subIn K (.ref C_NothingToUndo) (.type "RuntimeError") = some true) (op_NothingToUndo : PySem.W.nsIn K cStatics "thirdparty.any" = some none) (tp_NothingToUndo : (PW.main.scope.names.lookup ("super" : Str)).isSome = false)
    (sa_NothingToUndo : PySem.W.findIn K (.ref C_NothingToUndo) "__setattr__" = some (some (.builtin "object.__setattr__"))) (ti_NothingToUndo : PySem.W.typeIn K (.ref fi_NothingToUndo) = some (.type "function")) (kc_NothingToUndo : PySem.W.keepIn K (.ref C_NothingToUndo) = true) (ex_NothingToUndo : PySem.W.subIn K (.ref C_NothingToUndo) (.type "BaseException") = some true) (ty_NothingToUndo : PySem.W.typeIn K (.ref C_NothingToUndo) = some (.type "type"))
    (ga_NothingToUndo : PySem.W.findIn K (.ref C_NothingToUndo) "__getattribute__" = some (some (.builtin "BaseException.__getattribute__"))) (gg_NothingToUndo : PySem.W.findIn K (.ref C_NothingToUndo) "__getattr__" = some none) (hdc_NothingToUndo : PySem.W.hasDictIn K C_NothingToUndo = true) (ss_NothingToUndo : PySem.W.subIn K (.ref C_NothingToUndo) (.ref C_NothingToUndo) = some true)
    {C_CommandFailed fi_CommandFailed pr_CommandFailed N_CommandFailed cda_CommandFailed cc_CommandFailed : Addr} {nm_CommandFailed q_CommandFailed : Str} {bs_CommandFailed : List Value} {sn_CommandFailed : List Str} {sub_CommandFailed : List Value} {ab_CommandFailed : Bool} {col_CommandFailed : Option Bool} {dd_CommandFailed : Option Addr} {k0_CommandFailed k1_CommandFailed k2_CommandFailed k3_CommandFailed k5_CommandFailed : Option Value} {kV_CommandFailed doc_CommandFailed pm_CommandFailed ct_CommandFailed oc_CommandFailed ccl_CommandFailed cl_CommandFailed : Value} {an_CommandFailed od_CommandFailed cdd_CommandFailed cld_CommandFailed : Option Addr} {osl_CommandFailed ccs_CommandFailed csl_CommandFailed : Array (Option Value)} {vs_CommandFailed : Array Value} {file_CommandFailed : Str} {tf_CommandFailed : Tok}
    (a_CommandFailed : PySem.W.nsIn K mainGlobals "CommandFailed" = some (some (.ref C_CommandFailed))) (lc_CommandFailed : K.lookup C_CommandFailed = some (excClassObj nm_CommandFailed q_CommandFailed C_CommandFailed N_CommandFailed bs_CommandFailed (.ref pr_CommandFailed :: [.type "RuntimeError", .type "Exception", .type "BaseException", .type "object"]) true sn_CommandFailed sub_CommandFailed ab_CommandFailed col_CommandFailed dd_CommandFailed k0_CommandFailed k1_CommandFailed k2_CommandFailed k3_CommandFailed k5_CommandFailed "RuntimeError.__new__"))
    (ii_CommandFailed : PySem.W.findIn K (.ref C_CommandFailed) "__init__" = some (some (.ref fi_CommandFailed))) (li_CommandFailed : K.lookup fi_CommandFailed = some ⟨oc_CommandFailed, od_CommandFailed, .func (PySem.W.ksFn "__init__" "CommandFailed.__init__" (defArgs s_CommandFailed_init) (defBody s_CommandFailed_init) (defScope s_CommandFailed_init) .none kV_CommandFailed doc_CommandFailed pm_CommandFailed an_CommandFailed (.ref cda_CommandFailed) ct_CommandFailed cc_CommandFailed), osl_CommandFailed⟩) (ei_CommandFailed : PySem.W.codeIn K (.ref cda_CommandFailed) "CommandFailed.__init__" = true)
    (lk_CommandFailed : K.lookup cda_CommandFailed = some ⟨ccl_CommandFailed, cdd_CommandFailed, .fields vs_CommandFailed, ccs_CommandFailed⟩) (v2_CommandFailed : vs_CommandFailed[2]? = some (.str file_CommandFailed tf_CommandFailed)) (fl_CommandFailed : ((PW.main.file : Str) == file_CommandFailed) = true) (lcc_CommandFailed : K.lookup cc_CommandFailed = some ⟨cl_CommandFailed, cld_CommandFailed, .cell (some (.ref C_CommandFailed)), csl_CommandFailed⟩)
    (su_CommandFailed : PySem.W.ks_superIn K C_CommandFailed C_CommandFailed "__init__" = some (some (.builtin "RuntimeError.__init__"))) (se_CommandFailed : PySem.W.mroIn K C_CommandFailed (.ref C_CommandFailed) = some true) (sb_CommandFailed : PySem.W.subIn K (.ref C_CommandFailed) (.type "RuntimeError") = some true) (op_CommandFailed : PySem.W.nsIn K cStatics "thirdparty.any" = some none) (tp_CommandFailed : (PW.main.scope.names.lookup ("super" : Str)).isSome = false)
    (sa_CommandFailed : PySem.W.findIn K (.ref C_CommandFailed) "__setattr__" = some (some (.builtin "object.__setattr__"))) (ti_CommandFailed : PySem.W.typeIn K (.ref fi_CommandFailed) = some (.type "function")) (kc_CommandFailed : PySem.W.keepIn K (.ref C_CommandFailed) = true) (ex_CommandFailed : PySem.W.subIn K (.ref C_CommandFailed) (.type "BaseException") = some true) (ty_CommandFailed : PySem.W.typeIn K (.ref C_CommandFailed) = some (.type "type"))
    (ga_CommandFailed : PySem.W.findIn K (.ref C_CommandFailed) "__getattribute__" = some (some (.builtin "BaseException.__getattribute__"))) (gg_CommandFailed : PySem.W.findIn K (.ref C_CommandFailed) "__getattr__" = some none) (hdc_CommandFailed : PySem.W.hasDictIn K C_CommandFailed = true) (ss_CommandFailed : PySem.W.subIn K (.ref C_CommandFailed) (.ref C_CommandFailed) = some true)
    (nf_CommandFailed_position : PySem.W.findIn K (.ref C_CommandFailed) "position" = some none)
    {C_TooMany fi_TooMany pr_TooMany N_TooMany cda_TooMany cc_TooMany : Addr} {nm_TooMany q_TooMany : Str} {bs_TooMany : List Value} {sn_TooMany : List Str} {sub_TooMany : List Value} {ab_TooMany : Bool} {col_TooMany : Option Bool} {dd_TooMany : Option Addr} {k0_TooMany k1_TooMany k2_TooMany k3_TooMany k5_TooMany : Option Value} {kV_TooMany doc_TooMany pm_TooMany ct_TooMany oc_TooMany ccl_TooMany cl_TooMany : Value} {an_TooMany od_TooMany cdd_TooMany cld_TooMany : Option Addr} {osl_TooMany ccs_TooMany csl_TooMany : Array (Option Value)} {vs_TooMany : Array Value} {file_TooMany : Str} {tf_TooMany : Tok}
    (a_TooMany : PySem.W.nsIn K mainGlobals "TooMany" = some (some (.ref C_TooMany))) (lc_TooMany : K.lookup C_TooMany = some (excClassObj nm_TooMany q_TooMany C_TooMany N_TooMany bs_TooMany (.ref pr_TooMany :: [.type "ArithmeticError", .type "Exception", .type "BaseException", .type "object"]) true sn_TooMany sub_TooMany ab_TooMany col_TooMany dd_TooMany k0_TooMany k1_TooMany k2_TooMany k3_TooMany k5_TooMany "ArithmeticError.__new__"))
    (ii_TooMany : PySem.W.findIn K (.ref C_TooMany) "__init__" = some (some (.ref fi_TooMany))) (li_TooMany : K.lookup fi_TooMany = some ⟨oc_TooMany, od_TooMany, .func (PySem.W.ksFn "__init__" "TooMany.__init__" (defArgs s_TooMany_init) (defBody s_TooMany_init) (defScope s_TooMany_init) .none kV_TooMany doc_TooMany pm_TooMany an_TooMany (.ref cda_TooMany) ct_TooMany cc_TooMany), osl_TooMany⟩) (ei_TooMany : PySem.W.codeIn K (.ref cda_TooMany) "TooMany.__init__" = true)
    (lk_TooMany : K.lookup cda_TooMany = some ⟨ccl_TooMany, cdd_TooMany, .fields vs_TooMany, ccs_TooMany⟩) (v2_TooMany : vs_TooMany[2]? = some (.str file_TooMany tf_TooMany)) (fl_TooMany : ((PW.main.file : Str) == file_TooMany) = true) (lcc_TooMany : K.lookup cc_TooMany = some ⟨cl_TooMany, cld_TooMany, .cell (some (.ref C_TooMany)), csl_TooMany⟩)
    (su_TooMany : PySem.W.ks_superIn K C_TooMany C_TooMany "__init__" = some (some (.builtin "ArithmeticError.__init__"))) (se_TooMany : PySem.W.mroIn K C_TooMany (.ref C_TooMany) = some true) (sb_TooMany : PySem.W.subIn K (.ref C_TooMany) (.type "ArithmeticError") = some true) (op_TooMany : PySem.W.nsIn K cStatics "thirdparty.any" = some none) (tp_TooMany : (PW.main.scope.names.lookup ("super" : Str)).isSome = false)
    (sa_TooMany : PySem.W.findIn K (.ref C_TooMany) "__setattr__" = some (some (.builtin "object.__setattr__"))) (ti_TooMany : PySem.W.typeIn K (.ref fi_TooMany) = some (.type "function")) (kc_TooMany : PySem.W.keepIn K (.ref C_TooMany) = true) (ex_TooMany : PySem.W.subIn K (.ref C_TooMany) (.type "BaseException") = some true) (ty_TooMany : PySem.W.typeIn K (.ref C_TooMany) = some (.type "type"))
    (ga_TooMany : PySem.W.findIn K (.ref C_TooMany) "__getattribute__" = some (some (.builtin "BaseException.__getattribute__"))) (gg_TooMany : PySem.W.findIn K (.ref C_TooMany) "__getattr__" = some none) (hdc_TooMany : PySem.W.hasDictIn K C_TooMany = true) (ss_TooMany : PySem.W.subIn K (.ref C_TooMany) (.ref C_TooMany) = some true)
    (nf_TooMany_what : PySem.W.findIn K (.ref C_TooMany) "what" = some none)
    (nf_TooMany_limit : PySem.W.findIn K (.ref C_TooMany) "limit" = some none)
    (xa_InvalidText : PySem.W.findIn K (.ref C_InvalidText) "__class__" = some (some (.builtin "object.__class__"))) (xn_InvalidText : PySem.W.specialIn K (.builtin "object.__class__") "__get__" = some (some (.builtin "getset_descriptor.__get__"))) (xt_InvalidText : PySem.W.takesIn K (.builtin "object.__class__") = some true) (xm_InvalidText : PySem.W.mroIn K C_InvalidText (.type "object") = some true)
    (xa_InvalidLetters : PySem.W.findIn K (.ref C_InvalidLetters) "__class__" = some (some (.builtin "object.__class__"))) (xn_InvalidLetters : PySem.W.specialIn K (.builtin "object.__class__") "__get__" = some (some (.builtin "getset_descriptor.__get__"))) (xt_InvalidLetters : PySem.W.takesIn K (.builtin "object.__class__") = some true) (xm_InvalidLetters : PySem.W.mroIn K C_InvalidLetters (.type "object") = some true)
    (xa_InvalidLetter : PySem.W.findIn K (.ref C_InvalidLetter) "__class__" = some (some (.builtin "object.__class__"))) (xn_InvalidLetter : PySem.W.specialIn K (.builtin "object.__class__") "__get__" = some (some (.builtin "getset_descriptor.__get__"))) (xt_InvalidLetter : PySem.W.takesIn K (.builtin "object.__class__") = some true) (xm_InvalidLetter : PySem.W.mroIn K C_InvalidLetter (.type "object") = some true)
    (xa_InvalidNumber : PySem.W.findIn K (.ref C_InvalidNumber) "__class__" = some (some (.builtin "object.__class__"))) (xn_InvalidNumber : PySem.W.specialIn K (.builtin "object.__class__") "__get__" = some (some (.builtin "getset_descriptor.__get__"))) (xt_InvalidNumber : PySem.W.takesIn K (.builtin "object.__class__") = some true) (xm_InvalidNumber : PySem.W.mroIn K C_InvalidNumber (.type "object") = some true)
    (xa_InvalidPlace : PySem.W.findIn K (.ref C_InvalidPlace) "__class__" = some (some (.builtin "object.__class__"))) (xn_InvalidPlace : PySem.W.specialIn K (.builtin "object.__class__") "__get__" = some (some (.builtin "getset_descriptor.__get__"))) (xt_InvalidPlace : PySem.W.takesIn K (.builtin "object.__class__") = some true) (xm_InvalidPlace : PySem.W.mroIn K C_InvalidPlace (.type "object") = some true)
    (xa_InvalidMachine : PySem.W.findIn K (.ref C_InvalidMachine) "__class__" = some (some (.builtin "object.__class__"))) (xn_InvalidMachine : PySem.W.specialIn K (.builtin "object.__class__") "__get__" = some (some (.builtin "getset_descriptor.__get__"))) (xt_InvalidMachine : PySem.W.takesIn K (.builtin "object.__class__") = some true) (xm_InvalidMachine : PySem.W.mroIn K C_InvalidMachine (.type "object") = some true)
    (xa_InvalidProduct : PySem.W.findIn K (.ref C_InvalidProduct) "__class__" = some (some (.builtin "object.__class__"))) (xn_InvalidProduct : PySem.W.specialIn K (.builtin "object.__class__") "__get__" = some (some (.builtin "getset_descriptor.__get__"))) (xt_InvalidProduct : PySem.W.takesIn K (.builtin "object.__class__") = some true) (xm_InvalidProduct : PySem.W.mroIn K C_InvalidProduct (.type "object") = some true)
    (xa_InvalidSum : PySem.W.findIn K (.ref C_InvalidSum) "__class__" = some (some (.builtin "object.__class__"))) (xn_InvalidSum : PySem.W.specialIn K (.builtin "object.__class__") "__get__" = some (some (.builtin "getset_descriptor.__get__"))) (xt_InvalidSum : PySem.W.takesIn K (.builtin "object.__class__") = some true) (xm_InvalidSum : PySem.W.mroIn K C_InvalidSum (.type "object") = some true)
    (xa_InvalidTest : PySem.W.findIn K (.ref C_InvalidTest) "__class__" = some (some (.builtin "object.__class__"))) (xn_InvalidTest : PySem.W.specialIn K (.builtin "object.__class__") "__get__" = some (some (.builtin "getset_descriptor.__get__"))) (xt_InvalidTest : PySem.W.takesIn K (.builtin "object.__class__") = some true) (xm_InvalidTest : PySem.W.mroIn K C_InvalidTest (.type "object") = some true)
    (xa_InvalidLine : PySem.W.findIn K (.ref C_InvalidLine) "__class__" = some (some (.builtin "object.__class__"))) (xn_InvalidLine : PySem.W.specialIn K (.builtin "object.__class__") "__get__" = some (some (.builtin "getset_descriptor.__get__"))) (xt_InvalidLine : PySem.W.takesIn K (.builtin "object.__class__") = some true) (xm_InvalidLine : PySem.W.mroIn K C_InvalidLine (.type "object") = some true)
    (xa_InvalidClaim : PySem.W.findIn K (.ref C_InvalidClaim) "__class__" = some (some (.builtin "object.__class__"))) (xn_InvalidClaim : PySem.W.specialIn K (.builtin "object.__class__") "__get__" = some (some (.builtin "getset_descriptor.__get__"))) (xt_InvalidClaim : PySem.W.takesIn K (.builtin "object.__class__") = some true) (xm_InvalidClaim : PySem.W.mroIn K C_InvalidClaim (.type "object") = some true)
    (xa_InvalidCommand : PySem.W.findIn K (.ref C_InvalidCommand) "__class__" = some (some (.builtin "object.__class__"))) (xn_InvalidCommand : PySem.W.specialIn K (.builtin "object.__class__") "__get__" = some (some (.builtin "getset_descriptor.__get__"))) (xt_InvalidCommand : PySem.W.takesIn K (.builtin "object.__class__") = some true) (xm_InvalidCommand : PySem.W.mroIn K C_InvalidCommand (.type "object") = some true)
    (xa_InvalidRows : PySem.W.findIn K (.ref C_InvalidRows) "__class__" = some (some (.builtin "object.__class__"))) (xn_InvalidRows : PySem.W.specialIn K (.builtin "object.__class__") "__get__" = some (some (.builtin "getset_descriptor.__get__"))) (xt_InvalidRows : PySem.W.takesIn K (.builtin "object.__class__") = some true) (xm_InvalidRows : PySem.W.mroIn K C_InvalidRows (.type "object") = some true)
    (xa_InvalidKinds : PySem.W.findIn K (.ref C_InvalidKinds) "__class__" = some (some (.builtin "object.__class__"))) (xn_InvalidKinds : PySem.W.specialIn K (.builtin "object.__class__") "__get__" = some (some (.builtin "getset_descriptor.__get__"))) (xt_InvalidKinds : PySem.W.takesIn K (.builtin "object.__class__") = some true) (xm_InvalidKinds : PySem.W.mroIn K C_InvalidKinds (.type "object") = some true)
    (xa_InvalidProducts : PySem.W.findIn K (.ref C_InvalidProducts) "__class__" = some (some (.builtin "object.__class__"))) (xn_InvalidProducts : PySem.W.specialIn K (.builtin "object.__class__") "__get__" = some (some (.builtin "getset_descriptor.__get__"))) (xt_InvalidProducts : PySem.W.takesIn K (.builtin "object.__class__") = some true) (xm_InvalidProducts : PySem.W.mroIn K C_InvalidProducts (.type "object") = some true)
    (xa_InvalidTexts : PySem.W.findIn K (.ref C_InvalidTexts) "__class__" = some (some (.builtin "object.__class__"))) (xn_InvalidTexts : PySem.W.specialIn K (.builtin "object.__class__") "__get__" = some (some (.builtin "getset_descriptor.__get__"))) (xt_InvalidTexts : PySem.W.takesIn K (.builtin "object.__class__") = some true) (xm_InvalidTexts : PySem.W.mroIn K C_InvalidTexts (.type "object") = some true)
    (xa_InvalidPlaces : PySem.W.findIn K (.ref C_InvalidPlaces) "__class__" = some (some (.builtin "object.__class__"))) (xn_InvalidPlaces : PySem.W.specialIn K (.builtin "object.__class__") "__get__" = some (some (.builtin "getset_descriptor.__get__"))) (xt_InvalidPlaces : PySem.W.takesIn K (.builtin "object.__class__") = some true) (xm_InvalidPlaces : PySem.W.mroIn K C_InvalidPlaces (.type "object") = some true)
    (xa_InvalidLevels : PySem.W.findIn K (.ref C_InvalidLevels) "__class__" = some (some (.builtin "object.__class__"))) (xn_InvalidLevels : PySem.W.specialIn K (.builtin "object.__class__") "__get__" = some (some (.builtin "getset_descriptor.__get__"))) (xt_InvalidLevels : PySem.W.takesIn K (.builtin "object.__class__") = some true) (xm_InvalidLevels : PySem.W.mroIn K C_InvalidLevels (.type "object") = some true)
    (xa_InvalidRow : PySem.W.findIn K (.ref C_InvalidRow) "__class__" = some (some (.builtin "object.__class__"))) (xn_InvalidRow : PySem.W.specialIn K (.builtin "object.__class__") "__get__" = some (some (.builtin "getset_descriptor.__get__"))) (xt_InvalidRow : PySem.W.takesIn K (.builtin "object.__class__") = some true) (xm_InvalidRow : PySem.W.mroIn K C_InvalidRow (.type "object") = some true)
    (xa_OtherLetters : PySem.W.findIn K (.ref C_OtherLetters) "__class__" = some (some (.builtin "object.__class__"))) (xn_OtherLetters : PySem.W.specialIn K (.builtin "object.__class__") "__get__" = some (some (.builtin "getset_descriptor.__get__"))) (xt_OtherLetters : PySem.W.takesIn K (.builtin "object.__class__") = some true) (xm_OtherLetters : PySem.W.mroIn K C_OtherLetters (.type "object") = some true)
    (xa_NotComeTo : PySem.W.findIn K (.ref C_NotComeTo) "__class__" = some (some (.builtin "object.__class__"))) (xn_NotComeTo : PySem.W.specialIn K (.builtin "object.__class__") "__get__" = some (some (.builtin "getset_descriptor.__get__"))) (xt_NotComeTo : PySem.W.takesIn K (.builtin "object.__class__") = some true) (xm_NotComeTo : PySem.W.mroIn K C_NotComeTo (.type "object") = some true)
    (xa_NeverHeard : PySem.W.findIn K (.ref C_NeverHeard) "__class__" = some (some (.builtin "object.__class__"))) (xn_NeverHeard : PySem.W.specialIn K (.builtin "object.__class__") "__get__" = some (some (.builtin "getset_descriptor.__get__"))) (xt_NeverHeard : PySem.W.takesIn K (.builtin "object.__class__") = some true) (xm_NeverHeard : PySem.W.mroIn K C_NeverHeard (.type "object") = some true)
    (xa_NothingToUndo : PySem.W.findIn K (.ref C_NothingToUndo) "__class__" = some (some (.builtin "object.__class__"))) (xn_NothingToUndo : PySem.W.specialIn K (.builtin "object.__class__") "__get__" = some (some (.builtin "getset_descriptor.__get__"))) (xt_NothingToUndo : PySem.W.takesIn K (.builtin "object.__class__") = some true) (xm_NothingToUndo : PySem.W.mroIn K C_NothingToUndo (.type "object") = some true)
    (xa_CommandFailed : PySem.W.findIn K (.ref C_CommandFailed) "__class__" = some (some (.builtin "object.__class__"))) (xn_CommandFailed : PySem.W.specialIn K (.builtin "object.__class__") "__get__" = some (some (.builtin "getset_descriptor.__get__"))) (xt_CommandFailed : PySem.W.takesIn K (.builtin "object.__class__") = some true) (xm_CommandFailed : PySem.W.mroIn K C_CommandFailed (.type "object") = some true)
    (xa_TooMany : PySem.W.findIn K (.ref C_TooMany) "__class__" = some (some (.builtin "object.__class__"))) (xn_TooMany : PySem.W.specialIn K (.builtin "object.__class__") "__get__" = some (some (.builtin "getset_descriptor.__get__"))) (xt_TooMany : PySem.W.takesIn K (.builtin "object.__class__") = some true) (xm_TooMany : PySem.W.mroIn K C_TooMany (.type "object") = some true)
    {C_PartsError : Addr} (a_PartsError : PySem.W.nsIn K mainGlobals "PartsError" = some (some (.ref C_PartsError)))
    {C_StateError : Addr} (a_StateError : PySem.W.nsIn K mainGlobals "StateError" = some (some (.ref C_StateError)))
    {C_LimitError : Addr} (a_LimitError : PySem.W.nsIn K mainGlobals "LimitError" = some (some (.ref C_LimitError)))
    (kt : ([C_InvalidText, C_InvalidLetters, C_InvalidLetter, C_InvalidNumber, C_InvalidPlace, C_InvalidMachine, C_InvalidProduct, C_InvalidSum, C_InvalidTest, C_InvalidLine, C_InvalidClaim, C_InvalidCommand, C_InvalidRows, C_InvalidKinds, C_InvalidProducts, C_InvalidTexts, C_InvalidPlaces, C_InvalidLevels, C_InvalidRow, C_OtherLetters, C_NotComeTo, C_NeverHeard, C_NothingToUndo, C_CommandFailed, C_TooMany].zipIdx.all fun p => [C_InvalidText, C_InvalidLetters, C_InvalidLetter, C_InvalidNumber, C_InvalidPlace, C_InvalidMachine, C_InvalidProduct, C_InvalidSum, C_InvalidTest, C_InvalidLine, C_InvalidClaim, C_InvalidCommand, C_InvalidRows, C_InvalidKinds, C_InvalidProducts, C_InvalidTexts, C_InvalidPlaces, C_InvalidLevels, C_InvalidRow, C_OtherLetters, C_NotComeTo, C_NeverHeard, C_NothingToUndo, C_CommandFailed, C_TooMany].zipIdx.all fun q => decide (PySem.W.kitOne K (.ref p.1) (.ref q.1) = some (decide (p.2 = q.2)))) = true)
    (kg : ([C_InvalidText, C_InvalidLetters, C_InvalidLetter, C_InvalidNumber, C_InvalidPlace, C_InvalidMachine, C_InvalidProduct, C_InvalidSum, C_InvalidTest, C_InvalidLine, C_InvalidClaim, C_InvalidCommand, C_InvalidRows, C_InvalidKinds, C_InvalidProducts, C_InvalidTexts, C_InvalidPlaces, C_InvalidLevels, C_InvalidRow, C_OtherLetters, C_NotComeTo, C_NeverHeard, C_NothingToUndo, C_CommandFailed, C_TooMany].zipIdx.all fun p => ([(.ref C_PartsError, 0), (.ref C_StateError, 1), (.ref C_LimitError, 2), (.type "ValueError", 0), (.type "RuntimeError", 1), (.type "ArithmeticError", 2)] : List (Value × Nat)).all fun q => decide (PySem.W.kitOne K (.ref p.1) q.1 = some (decide ((if p.2 < 19 then 0 else if p.2 < 24 then 1 else 2) = q.2)))) = true)
    (et : (([(C_InvalidRows, [(C_InvalidRow, false), (C_InvalidRows, true), (C_InvalidLetter, false), (C_InvalidLetters, false), (C_InvalidText, false), (C_PartsError, true), (C_NothingToUndo, false), (C_StateError, false), (C_LimitError, false)]), (C_InvalidRow, [(C_InvalidRow, true), (C_InvalidRows, false), (C_InvalidLetter, false), (C_InvalidLetters, false), (C_InvalidText, false), (C_PartsError, true), (C_NothingToUndo, false), (C_StateError, false), (C_LimitError, false)]), (C_InvalidLetters, [(C_InvalidRow, false), (C_InvalidRows, false), (C_InvalidLetter, false), (C_InvalidLetters, true), (C_InvalidText, false), (C_PartsError, true), (C_NothingToUndo, false), (C_StateError, false), (C_LimitError, false)]), (C_InvalidLetter, [(C_InvalidRow, false), (C_InvalidRows, false), (C_InvalidLetter, true), (C_InvalidLetters, false), (C_InvalidText, false), (C_PartsError, true), (C_NothingToUndo, false), (C_StateError, false), (C_LimitError, false)]), (C_InvalidTexts, [(C_InvalidRow, false), (C_InvalidRows, false), (C_InvalidLetter, false), (C_InvalidLetters, false), (C_InvalidText, false), (C_PartsError, true), (C_NothingToUndo, false), (C_StateError, false), (C_LimitError, false)]), (C_NothingToUndo, [(C_InvalidRow, false), (C_InvalidRows, false), (C_InvalidLetter, false), (C_InvalidLetters, false), (C_InvalidText, false), (C_PartsError, false), (C_NothingToUndo, true), (C_StateError, true), (C_LimitError, false)]), (C_NeverHeard, [(C_InvalidRow, false), (C_InvalidRows, false), (C_InvalidLetter, false), (C_InvalidLetters, false), (C_InvalidText, false), (C_PartsError, false), (C_NothingToUndo, false), (C_StateError, true), (C_LimitError, false)]), (C_TooMany, [(C_InvalidRow, false), (C_InvalidRows, false), (C_InvalidLetter, false), (C_InvalidLetters, false), (C_InvalidText, false), (C_PartsError, false), (C_NothingToUndo, false), (C_StateError, false), (C_LimitError, true)])] : List (Addr × List (Addr × Bool))).all fun p => p.2.all fun q => decide (PySem.W.exmOne K (.ref p.1) (.ref q.1) = some q.2)) = true)
    (z_ArithmeticError : PySem.W.nsIn K mainGlobals "ArithmeticError" = some none)
    (z_RuntimeError : PySem.W.nsIn K mainGlobals "RuntimeError" = some none)
    (z_ValueError : PySem.W.nsIn K mainGlobals "ValueError" = some none)
    (z_abs : PySem.W.nsIn K mainGlobals "abs" = some none)
    (z_all : PySem.W.nsIn K mainGlobals "all" = some none)
    (z_any : PySem.W.nsIn K mainGlobals "any" = some none)
    (z_divmod : PySem.W.nsIn K mainGlobals "divmod" = some none)
    (z_enumerate : PySem.W.nsIn K mainGlobals "enumerate" = some none)
    (z_int : PySem.W.nsIn K mainGlobals "int" = some none)
    (z_isinstance : PySem.W.nsIn K mainGlobals "isinstance" = some none)
    (z_len : PySem.W.nsIn K mainGlobals "len" = some none)
    (z_max : PySem.W.nsIn K mainGlobals "max" = some none)
    (z_min : PySem.W.nsIn K mainGlobals "min" = some none)
    (z_range : PySem.W.nsIn K mainGlobals "range" = some none)
    (z_repr : PySem.W.nsIn K mainGlobals "repr" = some none)
    (z_super : PySem.W.nsIn K mainGlobals "super" = some none)
    : ∃ T : All K mg, T.f_law = f_law := by
  have F_law_pot := fun_mk (st := s_law_pot) l_law_pot e_law_pot k_law_pot
  have B_law_pot := F_law_pot.binds (ps := ["_law_script", "_law_k"]) fun _ _ _ _ _ _ us hl => match us, hl with | [_, _], _ => rfl
  have F_law_draw := fun_mk (st := s_law_draw) l_law_draw e_law_draw k_law_draw
  have B_law_draw := F_law_draw.binds (ps := ["_law_pot_here", "_law_sides"]) fun _ _ _ _ _ _ us hl => match us, hl with | [_, _], _ => rfl
  have F_law_pick := fun_mk (st := s_law_pick) l_law_pick e_law_pick k_law_pick
  have B_law_pick := F_law_pick.binds (ps := ["_law_pot_here", "_law_some"]) fun _ _ _ _ _ _ us hl => match us, hl with | [_, _], _ => rfl
  have F_law_grounds := fun_mk (st := s_law_grounds) l_law_grounds e_law_grounds k_law_grounds
  have B_law_grounds := F_law_grounds.binds (ps := ["_law_e"]) fun _ _ _ _ _ _ us hl => match us, hl with | [_], _ => rfl
  have F_law_ground := fun_mk (st := s_law_ground) l_law_ground e_law_ground k_law_ground
  have B_law_ground := F_law_ground.binds (ps := ["_law_way"]) fun _ _ _ _ _ _ us hl => match us, hl with | [_], _ => rfl
  have F_law_thing := fun_mk (st := s_law_thing) l_law_thing e_law_thing k_law_thing
  have B_law_thing := F_law_thing.binds (ps := ["_law_pot_here", "_law_turn"]) fun _ _ _ _ _ _ us hl => match us, hl with | [_, _], _ => rfl
  have F_law_by_value := fun_mk (st := s_law_by_value) l_law_by_value e_law_by_value k_law_by_value
  have B_law_by_value := F_law_by_value.binds (ps := ["_law_odd"]) fun _ _ _ _ _ _ us hl => match us, hl with | [_], _ => rfl
  have F_law_by_named_value := fun_mk (st := s_law_by_named_value) l_law_by_named_value e_law_by_named_value k_law_by_named_value
  have B_law_by_named_value := F_law_by_named_value.binds (ps := ["_law_odd"]) fun _ _ _ _ _ _ us hl => match us, hl with | [_], _ => rfl
  have F_law_by_position := fun_mk (st := s_law_by_position) l_law_by_position e_law_by_position k_law_by_position
  have B_law_by_position := F_law_by_position.binds (ps := ["_law_odd"]) fun _ _ _ _ _ _ us hl => match us, hl with | [_], _ => rfl
  have F_law_by_named_position := fun_mk (st := s_law_by_named_position) l_law_by_named_position e_law_by_named_position k_law_by_named_position
  have B_law_by_named_position := F_law_by_named_position.binds (ps := ["_law_odd"]) fun _ _ _ _ _ _ us hl => match us, hl with | [_], _ => rfl
  have F_law_of_states := fun_mk (st := s_law_of_states) l_law_of_states e_law_of_states k_law_of_states
  have B_law_of_states := F_law_of_states.binds (ps := ["_law_odd"]) fun _ _ _ _ _ _ us hl => match us, hl with | [_], _ => rfl
  have F_law_each := fun_mk (st := s_law_each) l_law_each e_law_each k_law_each
  have B_law_each := F_law_each.binds (ps := ["_law_odd"]) fun _ _ _ _ _ _ us hl => match us, hl with | [_], _ => rfl
  have F_law_marks := fun_mk (st := s_law_marks) l_law_marks e_law_marks k_law_marks
  have B_law_marks := F_law_marks.binds (ps := ["_law_e"]) fun _ _ _ _ _ _ us hl => match us, hl with | [_], _ => rfl
  have F_law_each_right := fun_mk (st := s_law_each_right) l_law_each_right e_law_each_right k_law_each_right
  have B_law_each_right := F_law_each_right.binds (ps := ["_law_odd"]) fun _ _ _ _ _ _ us hl => match us, hl with | [_], _ => rfl
  have F_law_values_right := fun_mk (st := s_law_values_right) l_law_values_right e_law_values_right k_law_values_right
  have B_law_values_right := F_law_values_right.binds (ps := ["_law_mine", "_law_yours"]) fun _ _ _ _ _ _ us hl => match us, hl with | [_, _], _ => rfl
  have F_law_states_right := fun_mk (st := s_law_states_right) l_law_states_right e_law_states_right k_law_states_right
  have B_law_states_right := F_law_states_right.binds (ps := ["_law_mine", "_law_yours"]) fun _ _ _ _ _ _ us hl => match us, hl with | [_, _], _ => rfl
  have F_law_thrown := fun_mk (st := s_law_thrown) l_law_thrown e_law_thrown k_law_thrown
  have B_law_thrown := F_law_thrown.binds (ps := ["_law_way", "_law_odd"]) fun _ _ _ _ _ _ us hl => match us, hl with | [_, _], _ => rfl
  have F_law_caught := fun_mk (st := s_law_caught) l_law_caught e_law_caught k_law_caught
  have B_law_caught := F_law_caught.binds (ps := ["_law_way", "_law_odd"]) fun _ _ _ _ _ _ us hl => match us, hl with | [_, _], _ => rfl
  have F_law_right := fun_mk (st := s_law_right) l_law_right e_law_right k_law_right
  have B_law_right := F_law_right.binds (ps := ["_law_pot_here"]) fun _ _ _ _ _ _ us hl => match us, hl with | [_], _ => rfl
  have F_law := fun_mk (st := s_law) l_law e_law k_law
  have B_law := F_law.binds (ps := ["_law_script"]) fun _ _ _ _ _ _ us hl => match us, hl with | [_], _ => rfl
  have EF_InvalidText := errF_mk (P := PW) (ps := ["self", "value"]) PySem.F.excBase_ValueError PySem.W.kxs_ValueError (by decide +kernel) PySem.F.store_ValueError.passes lc_InvalidText li_InvalidText ei_InvalidText lk_InvalidText v2_InvalidText fl_InvalidText lcc_InvalidText (fun s us hl => match us, hl with | [_, _], _ => .of_eq rfl) su_InvalidText se_InvalidText sb_InvalidText op_InvalidText (PySem.W.mg_none_of X G z_super) tp_InvalidText sa_InvalidText ii_InvalidText ti_InvalidText kc_InvalidText ex_InvalidText ty_InvalidText
  have EF_InvalidLetters := errF_mk (P := PW) (ps := ["self", "value"]) PySem.F.excBase_ValueError PySem.W.kxs_ValueError (by decide +kernel) PySem.F.store_ValueError.passes lc_InvalidLetters li_InvalidLetters ei_InvalidLetters lk_InvalidLetters v2_InvalidLetters fl_InvalidLetters lcc_InvalidLetters (fun s us hl => match us, hl with | [_, _], _ => .of_eq rfl) su_InvalidLetters se_InvalidLetters sb_InvalidLetters op_InvalidLetters (PySem.W.mg_none_of X G z_super) tp_InvalidLetters sa_InvalidLetters ii_InvalidLetters ti_InvalidLetters kc_InvalidLetters ex_InvalidLetters ty_InvalidLetters
  have EF_InvalidLetter := errF_mk (P := PW) (ps := ["self", "value"]) PySem.F.excBase_ValueError PySem.W.kxs_ValueError (by decide +kernel) PySem.F.store_ValueError.passes lc_InvalidLetter li_InvalidLetter ei_InvalidLetter lk_InvalidLetter v2_InvalidLetter fl_InvalidLetter lcc_InvalidLetter (fun s us hl => match us, hl with | [_, _], _ => .of_eq rfl) su_InvalidLetter se_InvalidLetter sb_InvalidLetter op_InvalidLetter (PySem.W.mg_none_of X G z_super) tp_InvalidLetter sa_InvalidLetter ii_InvalidLetter ti_InvalidLetter kc_InvalidLetter ex_InvalidLetter ty_InvalidLetter
  have EF_InvalidNumber := errF_mk (P := PW) (ps := ["self", "value"]) PySem.F.excBase_ValueError PySem.W.kxs_ValueError (by decide +kernel) PySem.F.store_ValueError.passes lc_InvalidNumber li_InvalidNumber ei_InvalidNumber lk_InvalidNumber v2_InvalidNumber fl_InvalidNumber lcc_InvalidNumber (fun s us hl => match us, hl with | [_, _], _ => .of_eq rfl) su_InvalidNumber se_InvalidNumber sb_InvalidNumber op_InvalidNumber (PySem.W.mg_none_of X G z_super) tp_InvalidNumber sa_InvalidNumber ii_InvalidNumber ti_InvalidNumber kc_InvalidNumber ex_InvalidNumber ty_InvalidNumber
  have EF_InvalidPlace := errF_mk (P := PW) (ps := ["self", "value"]) PySem.F.excBase_ValueError PySem.W.kxs_ValueError (by decide +kernel) PySem.F.store_ValueError.passes lc_InvalidPlace li_InvalidPlace ei_InvalidPlace lk_InvalidPlace v2_InvalidPlace fl_InvalidPlace lcc_InvalidPlace (fun s us hl => match us, hl with | [_, _], _ => .of_eq rfl) su_InvalidPlace se_InvalidPlace sb_InvalidPlace op_InvalidPlace (PySem.W.mg_none_of X G z_super) tp_InvalidPlace sa_InvalidPlace ii_InvalidPlace ti_InvalidPlace kc_InvalidPlace ex_InvalidPlace ty_InvalidPlace
  have EF_InvalidMachine := errF_mk (P := PW) (ps := ["self", "value"]) PySem.F.excBase_ValueError PySem.W.kxs_ValueError (by decide +kernel) PySem.F.store_ValueError.passes lc_InvalidMachine li_InvalidMachine ei_InvalidMachine lk_InvalidMachine v2_InvalidMachine fl_InvalidMachine lcc_InvalidMachine (fun s us hl => match us, hl with | [_, _], _ => .of_eq rfl) su_InvalidMachine se_InvalidMachine sb_InvalidMachine op_InvalidMachine (PySem.W.mg_none_of X G z_super) tp_InvalidMachine sa_InvalidMachine ii_InvalidMachine ti_InvalidMachine kc_InvalidMachine ex_InvalidMachine ty_InvalidMachine
  have EF_InvalidProduct := errF_mk (P := PW) (ps := ["self", "value"]) PySem.F.excBase_ValueError PySem.W.kxs_ValueError (by decide +kernel) PySem.F.store_ValueError.passes lc_InvalidProduct li_InvalidProduct ei_InvalidProduct lk_InvalidProduct v2_InvalidProduct fl_InvalidProduct lcc_InvalidProduct (fun s us hl => match us, hl with | [_, _], _ => .of_eq rfl) su_InvalidProduct se_InvalidProduct sb_InvalidProduct op_InvalidProduct (PySem.W.mg_none_of X G z_super) tp_InvalidProduct sa_InvalidProduct ii_InvalidProduct ti_InvalidProduct kc_InvalidProduct ex_InvalidProduct ty_InvalidProduct
  have EF_InvalidSum := errF_mk (P := PW) (ps := ["self", "value"]) PySem.F.excBase_ValueError PySem.W.kxs_ValueError (by decide +kernel) PySem.F.store_ValueError.passes lc_InvalidSum li_InvalidSum ei_InvalidSum lk_InvalidSum v2_InvalidSum fl_InvalidSum lcc_InvalidSum (fun s us hl => match us, hl with | [_, _], _ => .of_eq rfl) su_InvalidSum se_InvalidSum sb_InvalidSum op_InvalidSum (PySem.W.mg_none_of X G z_super) tp_InvalidSum sa_InvalidSum ii_InvalidSum ti_InvalidSum kc_InvalidSum ex_InvalidSum ty_InvalidSum
  have EF_InvalidTest := errF_mk (P := PW) (ps := ["self", "value"]) PySem.F.excBase_ValueError PySem.W.kxs_ValueError (by decide +kernel) PySem.F.store_ValueError.passes lc_InvalidTest li_InvalidTest ei_InvalidTest lk_InvalidTest v2_InvalidTest fl_InvalidTest lcc_InvalidTest (fun s us hl => match us, hl with | [_, _], _ => .of_eq rfl) su_InvalidTest se_InvalidTest sb_InvalidTest op_InvalidTest (PySem.W.mg_none_of X G z_super) tp_InvalidTest sa_InvalidTest ii_InvalidTest ti_InvalidTest kc_InvalidTest ex_InvalidTest ty_InvalidTest
  have EF_InvalidLine := errF_mk (P := PW) (ps := ["self", "value"]) PySem.F.excBase_ValueError PySem.W.kxs_ValueError (by decide +kernel) PySem.F.store_ValueError.passes lc_InvalidLine li_InvalidLine ei_InvalidLine lk_InvalidLine v2_InvalidLine fl_InvalidLine lcc_InvalidLine (fun s us hl => match us, hl with | [_, _], _ => .of_eq rfl) su_InvalidLine se_InvalidLine sb_InvalidLine op_InvalidLine (PySem.W.mg_none_of X G z_super) tp_InvalidLine sa_InvalidLine ii_InvalidLine ti_InvalidLine kc_InvalidLine ex_InvalidLine ty_InvalidLine
  have EF_InvalidClaim := errF_mk (P := PW) (ps := ["self", "value"]) PySem.F.excBase_ValueError PySem.W.kxs_ValueError (by decide +kernel) PySem.F.store_ValueError.passes lc_InvalidClaim li_InvalidClaim ei_InvalidClaim lk_InvalidClaim v2_InvalidClaim fl_InvalidClaim lcc_InvalidClaim (fun s us hl => match us, hl with | [_, _], _ => .of_eq rfl) su_InvalidClaim se_InvalidClaim sb_InvalidClaim op_InvalidClaim (PySem.W.mg_none_of X G z_super) tp_InvalidClaim sa_InvalidClaim ii_InvalidClaim ti_InvalidClaim kc_InvalidClaim ex_InvalidClaim ty_InvalidClaim
  have EF_InvalidCommand := errF_mk (P := PW) (ps := ["self", "value"]) PySem.F.excBase_ValueError PySem.W.kxs_ValueError (by decide +kernel) PySem.F.store_ValueError.passes lc_InvalidCommand li_InvalidCommand ei_InvalidCommand lk_InvalidCommand v2_InvalidCommand fl_InvalidCommand lcc_InvalidCommand (fun s us hl => match us, hl with | [_, _], _ => .of_eq rfl) su_InvalidCommand se_InvalidCommand sb_InvalidCommand op_InvalidCommand (PySem.W.mg_none_of X G z_super) tp_InvalidCommand sa_InvalidCommand ii_InvalidCommand ti_InvalidCommand kc_InvalidCommand ex_InvalidCommand ty_InvalidCommand
  have EF_InvalidRows := errF_mk (P := PW) (ps := ["self", "position"]) PySem.F.excBase_ValueError PySem.W.kxs_ValueError (by decide +kernel) PySem.F.store_ValueError.passes lc_InvalidRows li_InvalidRows ei_InvalidRows lk_InvalidRows v2_InvalidRows fl_InvalidRows lcc_InvalidRows (fun s us hl => match us, hl with | [_, _], _ => .of_eq rfl) su_InvalidRows se_InvalidRows sb_InvalidRows op_InvalidRows (PySem.W.mg_none_of X G z_super) tp_InvalidRows sa_InvalidRows ii_InvalidRows ti_InvalidRows kc_InvalidRows ex_InvalidRows ty_InvalidRows
  have EF_InvalidKinds := errF_mk (P := PW) (ps := ["self", "position"]) PySem.F.excBase_ValueError PySem.W.kxs_ValueError (by decide +kernel) PySem.F.store_ValueError.passes lc_InvalidKinds li_InvalidKinds ei_InvalidKinds lk_InvalidKinds v2_InvalidKinds fl_InvalidKinds lcc_InvalidKinds (fun s us hl => match us, hl with | [_, _], _ => .of_eq rfl) su_InvalidKinds se_InvalidKinds sb_InvalidKinds op_InvalidKinds (PySem.W.mg_none_of X G z_super) tp_InvalidKinds sa_InvalidKinds ii_InvalidKinds ti_InvalidKinds kc_InvalidKinds ex_InvalidKinds ty_InvalidKinds
  have EF_InvalidProducts := errF_mk (P := PW) (ps := ["self", "position"]) PySem.F.excBase_ValueError PySem.W.kxs_ValueError (by decide +kernel) PySem.F.store_ValueError.passes lc_InvalidProducts li_InvalidProducts ei_InvalidProducts lk_InvalidProducts v2_InvalidProducts fl_InvalidProducts lcc_InvalidProducts (fun s us hl => match us, hl with | [_, _], _ => .of_eq rfl) su_InvalidProducts se_InvalidProducts sb_InvalidProducts op_InvalidProducts (PySem.W.mg_none_of X G z_super) tp_InvalidProducts sa_InvalidProducts ii_InvalidProducts ti_InvalidProducts kc_InvalidProducts ex_InvalidProducts ty_InvalidProducts
  have EF_InvalidTexts := errF_mk (P := PW) (ps := ["self", "position"]) PySem.F.excBase_ValueError PySem.W.kxs_ValueError (by decide +kernel) PySem.F.store_ValueError.passes lc_InvalidTexts li_InvalidTexts ei_InvalidTexts lk_InvalidTexts v2_InvalidTexts fl_InvalidTexts lcc_InvalidTexts (fun s us hl => match us, hl with | [_, _], _ => .of_eq rfl) su_InvalidTexts se_InvalidTexts sb_InvalidTexts op_InvalidTexts (PySem.W.mg_none_of X G z_super) tp_InvalidTexts sa_InvalidTexts ii_InvalidTexts ti_InvalidTexts kc_InvalidTexts ex_InvalidTexts ty_InvalidTexts
  have EF_InvalidPlaces := errF_mk (P := PW) (ps := ["self", "position"]) PySem.F.excBase_ValueError PySem.W.kxs_ValueError (by decide +kernel) PySem.F.store_ValueError.passes lc_InvalidPlaces li_InvalidPlaces ei_InvalidPlaces lk_InvalidPlaces v2_InvalidPlaces fl_InvalidPlaces lcc_InvalidPlaces (fun s us hl => match us, hl with | [_, _], _ => .of_eq rfl) su_InvalidPlaces se_InvalidPlaces sb_InvalidPlaces op_InvalidPlaces (PySem.W.mg_none_of X G z_super) tp_InvalidPlaces sa_InvalidPlaces ii_InvalidPlaces ti_InvalidPlaces kc_InvalidPlaces ex_InvalidPlaces ty_InvalidPlaces
  have EF_InvalidLevels := errF_mk (P := PW) (ps := ["self", "position"]) PySem.F.excBase_ValueError PySem.W.kxs_ValueError (by decide +kernel) PySem.F.store_ValueError.passes lc_InvalidLevels li_InvalidLevels ei_InvalidLevels lk_InvalidLevels v2_InvalidLevels fl_InvalidLevels lcc_InvalidLevels (fun s us hl => match us, hl with | [_, _], _ => .of_eq rfl) su_InvalidLevels se_InvalidLevels sb_InvalidLevels op_InvalidLevels (PySem.W.mg_none_of X G z_super) tp_InvalidLevels sa_InvalidLevels ii_InvalidLevels ti_InvalidLevels kc_InvalidLevels ex_InvalidLevels ty_InvalidLevels
  have EF_InvalidRow := errF_mk (P := PW) (ps := ["self", "row"]) PySem.F.excBase_ValueError PySem.W.kxs_ValueError (by decide +kernel) PySem.F.store_ValueError.passes lc_InvalidRow li_InvalidRow ei_InvalidRow lk_InvalidRow v2_InvalidRow fl_InvalidRow lcc_InvalidRow (fun s us hl => match us, hl with | [_, _], _ => .of_eq rfl) su_InvalidRow se_InvalidRow sb_InvalidRow op_InvalidRow (PySem.W.mg_none_of X G z_super) tp_InvalidRow sa_InvalidRow ii_InvalidRow ti_InvalidRow kc_InvalidRow ex_InvalidRow ty_InvalidRow
  have EF_OtherLetters := errF_mk (P := PW) (ps := ["self", "one", "other"]) PySem.F.excBase_RuntimeError PySem.W.kxs_RuntimeError (by decide +kernel) PySem.F.store_RuntimeError.passes lc_OtherLetters li_OtherLetters ei_OtherLetters lk_OtherLetters v2_OtherLetters fl_OtherLetters lcc_OtherLetters (fun s us hl => match us, hl with | [_, _, _], _ => .of_eq rfl) su_OtherLetters se_OtherLetters sb_OtherLetters op_OtherLetters (PySem.W.mg_none_of X G z_super) tp_OtherLetters sa_OtherLetters ii_OtherLetters ti_OtherLetters kc_OtherLetters ex_OtherLetters ty_OtherLetters
  have EF_NotComeTo := errF_mk (P := PW) (ps := ["self", "place"]) PySem.F.excBase_RuntimeError PySem.W.kxs_RuntimeError (by decide +kernel) PySem.F.store_RuntimeError.passes lc_NotComeTo li_NotComeTo ei_NotComeTo lk_NotComeTo v2_NotComeTo fl_NotComeTo lcc_NotComeTo (fun s us hl => match us, hl with | [_, _], _ => .of_eq rfl) su_NotComeTo se_NotComeTo sb_NotComeTo op_NotComeTo (PySem.W.mg_none_of X G z_super) tp_NotComeTo sa_NotComeTo ii_NotComeTo ti_NotComeTo kc_NotComeTo ex_NotComeTo ty_NotComeTo
  have EF_NeverHeard := errF_mk (P := PW) (ps := ["self", "value"]) PySem.F.excBase_RuntimeError PySem.W.kxs_RuntimeError (by decide +kernel) PySem.F.store_RuntimeError.passes lc_NeverHeard li_NeverHeard ei_NeverHeard lk_NeverHeard v2_NeverHeard fl_NeverHeard lcc_NeverHeard (fun s us hl => match us, hl with | [_, _], _ => .of_eq rfl) su_NeverHeard se_NeverHeard sb_NeverHeard op_NeverHeard (PySem.W.mg_none_of X G z_super) tp_NeverHeard sa_NeverHeard ii_NeverHeard ti_NeverHeard kc_NeverHeard ex_NeverHeard ty_NeverHeard
  have EF_NothingToUndo := errF_mk (P := PW) (ps := ["self"]) PySem.F.excBase_RuntimeError PySem.W.kxs_RuntimeError (by decide +kernel) PySem.F.store_RuntimeError.passes lc_NothingToUndo li_NothingToUndo ei_NothingToUndo lk_NothingToUndo v2_NothingToUndo fl_NothingToUndo lcc_NothingToUndo (fun s us hl => match us, hl with | [_], _ => .of_eq rfl) su_NothingToUndo se_NothingToUndo sb_NothingToUndo op_NothingToUndo (PySem.W.mg_none_of X G z_super) tp_NothingToUndo sa_NothingToUndo ii_NothingToUndo ti_NothingToUndo kc_NothingToUndo ex_NothingToUndo ty_NothingToUndo
  have EF_CommandFailed := errF_mk (P := PW) (ps := ["self", "position"]) PySem.F.excBase_RuntimeError PySem.W.kxs_RuntimeError (by decide +kernel) PySem.F.store_RuntimeError.passes lc_CommandFailed li_CommandFailed ei_CommandFailed lk_CommandFailed v2_CommandFailed fl_CommandFailed lcc_CommandFailed (fun s us hl => match us, hl with | [_, _], _ => .of_eq rfl) su_CommandFailed se_CommandFailed sb_CommandFailed op_CommandFailed (PySem.W.mg_none_of X G z_super) tp_CommandFailed sa_CommandFailed ii_CommandFailed ti_CommandFailed kc_CommandFailed ex_CommandFailed ty_CommandFailed
  have EF_TooMany := errF_mk (P := PW) (ps := ["self", "what", "limit"]) PySem.F.excBase_ArithmeticError PySem.W.kxs_ArithmeticError (by decide +kernel) PySem.F.store_ArithmeticError.passes lc_TooMany li_TooMany ei_TooMany lk_TooMany v2_TooMany fl_TooMany lcc_TooMany (fun s us hl => match us, hl with | [_, _, _], _ => .of_eq rfl) su_TooMany se_TooMany sb_TooMany op_TooMany (PySem.W.mg_none_of X G z_super) tp_TooMany sa_TooMany ii_TooMany ti_TooMany kc_TooMany ex_TooMany ty_TooMany
  exact ⟨⟨_, PySem.W.mg_of X G a_InvalidText, ⟨_, _, _, _, _, _, _, _, ⟨EF_InvalidText, es_InvalidText⟩, eb_InvalidText, nf_InvalidText_value, (fun _ _ _ _ e => by rw [li_InvalidText] at e; cases e; rfl), kw_InvalidText⟩, ⟨ga_InvalidText, gg_InvalidText, ex_InvalidText, hdc_InvalidText⟩, ⟨ga_InvalidText, gg_InvalidText, ex_InvalidText, hdc_InvalidText, xa_InvalidText, xn_InvalidText, xt_InvalidText, xm_InvalidText⟩,
    nf_InvalidText_value,
    _, PySem.W.mg_of X G a_InvalidLetters, ⟨_, _, _, _, _, _, _, _, ⟨EF_InvalidLetters, es_InvalidLetters⟩, eb_InvalidLetters, nf_InvalidLetters_value, (fun _ _ _ _ e => by rw [li_InvalidLetters] at e; cases e; rfl), kw_InvalidLetters⟩, ⟨ga_InvalidLetters, gg_InvalidLetters, ex_InvalidLetters, hdc_InvalidLetters⟩, ⟨ga_InvalidLetters, gg_InvalidLetters, ex_InvalidLetters, hdc_InvalidLetters, xa_InvalidLetters, xn_InvalidLetters, xt_InvalidLetters, xm_InvalidLetters⟩,
    nf_InvalidLetters_value,
    _, PySem.W.mg_of X G a_InvalidLetter, ⟨_, _, _, _, _, _, _, _, ⟨EF_InvalidLetter, es_InvalidLetter⟩, eb_InvalidLetter, nf_InvalidLetter_value, (fun _ _ _ _ e => by rw [li_InvalidLetter] at e; cases e; rfl), kw_InvalidLetter⟩, ⟨ga_InvalidLetter, gg_InvalidLetter, ex_InvalidLetter, hdc_InvalidLetter⟩, ⟨ga_InvalidLetter, gg_InvalidLetter, ex_InvalidLetter, hdc_InvalidLetter, xa_InvalidLetter, xn_InvalidLetter, xt_InvalidLetter, xm_InvalidLetter⟩,
    nf_InvalidLetter_value,
    _, PySem.W.mg_of X G a_InvalidNumber, ⟨_, _, _, _, _, _, _, _, ⟨EF_InvalidNumber, es_InvalidNumber⟩, eb_InvalidNumber, nf_InvalidNumber_value, (fun _ _ _ _ e => by rw [li_InvalidNumber] at e; cases e; rfl), kw_InvalidNumber⟩, ⟨ga_InvalidNumber, gg_InvalidNumber, ex_InvalidNumber, hdc_InvalidNumber⟩, ⟨ga_InvalidNumber, gg_InvalidNumber, ex_InvalidNumber, hdc_InvalidNumber, xa_InvalidNumber, xn_InvalidNumber, xt_InvalidNumber, xm_InvalidNumber⟩,
    nf_InvalidNumber_value,
    _, PySem.W.mg_of X G a_InvalidPlace, ⟨_, _, _, _, _, _, _, _, ⟨EF_InvalidPlace, es_InvalidPlace⟩, eb_InvalidPlace, nf_InvalidPlace_value, (fun _ _ _ _ e => by rw [li_InvalidPlace] at e; cases e; rfl), kw_InvalidPlace⟩, ⟨ga_InvalidPlace, gg_InvalidPlace, ex_InvalidPlace, hdc_InvalidPlace⟩, ⟨ga_InvalidPlace, gg_InvalidPlace, ex_InvalidPlace, hdc_InvalidPlace, xa_InvalidPlace, xn_InvalidPlace, xt_InvalidPlace, xm_InvalidPlace⟩,
    nf_InvalidPlace_value,
    _, PySem.W.mg_of X G a_InvalidMachine, ⟨_, _, _, _, _, _, _, _, ⟨EF_InvalidMachine, es_InvalidMachine⟩, eb_InvalidMachine, nf_InvalidMachine_value, (fun _ _ _ _ e => by rw [li_InvalidMachine] at e; cases e; rfl), kw_InvalidMachine⟩, ⟨ga_InvalidMachine, gg_InvalidMachine, ex_InvalidMachine, hdc_InvalidMachine⟩, ⟨ga_InvalidMachine, gg_InvalidMachine, ex_InvalidMachine, hdc_InvalidMachine, xa_InvalidMachine, xn_InvalidMachine, xt_InvalidMachine, xm_InvalidMachine⟩,
    nf_InvalidMachine_value,
    _, PySem.W.mg_of X G a_InvalidProduct, ⟨_, _, _, _, _, _, _, _, ⟨EF_InvalidProduct, es_InvalidProduct⟩, eb_InvalidProduct, nf_InvalidProduct_value, (fun _ _ _ _ e => by rw [li_InvalidProduct] at e; cases e; rfl), kw_InvalidProduct⟩, ⟨ga_InvalidProduct, gg_InvalidProduct, ex_InvalidProduct, hdc_InvalidProduct⟩, ⟨ga_InvalidProduct, gg_InvalidProduct, ex_InvalidProduct, hdc_InvalidProduct, xa_InvalidProduct, xn_InvalidProduct, xt_InvalidProduct, xm_InvalidProduct⟩,
    nf_InvalidProduct_value,
    _, PySem.W.mg_of X G a_InvalidSum, ⟨_, _, _, _, _, _, _, _, ⟨EF_InvalidSum, es_InvalidSum⟩, eb_InvalidSum, nf_InvalidSum_value, (fun _ _ _ _ e => by rw [li_InvalidSum] at e; cases e; rfl), kw_InvalidSum⟩, ⟨ga_InvalidSum, gg_InvalidSum, ex_InvalidSum, hdc_InvalidSum⟩, ⟨ga_InvalidSum, gg_InvalidSum, ex_InvalidSum, hdc_InvalidSum, xa_InvalidSum, xn_InvalidSum, xt_InvalidSum, xm_InvalidSum⟩,
    nf_InvalidSum_value,
    _, PySem.W.mg_of X G a_InvalidTest, ⟨_, _, _, _, _, _, _, _, ⟨EF_InvalidTest, es_InvalidTest⟩, eb_InvalidTest, nf_InvalidTest_value, (fun _ _ _ _ e => by rw [li_InvalidTest] at e; cases e; rfl), kw_InvalidTest⟩, ⟨ga_InvalidTest, gg_InvalidTest, ex_InvalidTest, hdc_InvalidTest⟩, ⟨ga_InvalidTest, gg_InvalidTest, ex_InvalidTest, hdc_InvalidTest, xa_InvalidTest, xn_InvalidTest, xt_InvalidTest, xm_InvalidTest⟩,
    nf_InvalidTest_value,
    _, PySem.W.mg_of X G a_InvalidLine, ⟨_, _, _, _, _, _, _, _, ⟨EF_InvalidLine, es_InvalidLine⟩, eb_InvalidLine, nf_InvalidLine_value, (fun _ _ _ _ e => by rw [li_InvalidLine] at e; cases e; rfl), kw_InvalidLine⟩, ⟨ga_InvalidLine, gg_InvalidLine, ex_InvalidLine, hdc_InvalidLine⟩, ⟨ga_InvalidLine, gg_InvalidLine, ex_InvalidLine, hdc_InvalidLine, xa_InvalidLine, xn_InvalidLine, xt_InvalidLine, xm_InvalidLine⟩,
    nf_InvalidLine_value,
    _, PySem.W.mg_of X G a_InvalidClaim, ⟨_, _, _, _, _, _, _, _, ⟨EF_InvalidClaim, es_InvalidClaim⟩, eb_InvalidClaim, nf_InvalidClaim_value, (fun _ _ _ _ e => by rw [li_InvalidClaim] at e; cases e; rfl), kw_InvalidClaim⟩, ⟨ga_InvalidClaim, gg_InvalidClaim, ex_InvalidClaim, hdc_InvalidClaim⟩, ⟨ga_InvalidClaim, gg_InvalidClaim, ex_InvalidClaim, hdc_InvalidClaim, xa_InvalidClaim, xn_InvalidClaim, xt_InvalidClaim, xm_InvalidClaim⟩,
    nf_InvalidClaim_value,
    _, PySem.W.mg_of X G a_InvalidCommand, ⟨_, _, _, _, _, _, _, _, ⟨EF_InvalidCommand, es_InvalidCommand⟩, eb_InvalidCommand, nf_InvalidCommand_value, (fun _ _ _ _ e => by rw [li_InvalidCommand] at e; cases e; rfl), kw_InvalidCommand⟩, ⟨ga_InvalidCommand, gg_InvalidCommand, ex_InvalidCommand, hdc_InvalidCommand⟩, ⟨ga_InvalidCommand, gg_InvalidCommand, ex_InvalidCommand, hdc_InvalidCommand, xa_InvalidCommand, xn_InvalidCommand, xt_InvalidCommand, xm_InvalidCommand⟩,
    nf_InvalidCommand_value,
    _, PySem.W.mg_of X G a_InvalidRows, ⟨_, _, _, _, _, _, _, _, ⟨EF_InvalidRows, es_InvalidRows⟩, eb_InvalidRows, nf_InvalidRows_position, (fun _ _ _ _ e => by rw [li_InvalidRows] at e; cases e; rfl), kw_InvalidRows⟩, ⟨ga_InvalidRows, gg_InvalidRows, ex_InvalidRows, hdc_InvalidRows⟩, ⟨ga_InvalidRows, gg_InvalidRows, ex_InvalidRows, hdc_InvalidRows, xa_InvalidRows, xn_InvalidRows, xt_InvalidRows, xm_InvalidRows⟩,
    nf_InvalidRows_position,
    _, PySem.W.mg_of X G a_InvalidKinds, ⟨_, _, _, _, _, _, _, _, ⟨EF_InvalidKinds, es_InvalidKinds⟩, eb_InvalidKinds, nf_InvalidKinds_position, (fun _ _ _ _ e => by rw [li_InvalidKinds] at e; cases e; rfl), kw_InvalidKinds⟩, ⟨ga_InvalidKinds, gg_InvalidKinds, ex_InvalidKinds, hdc_InvalidKinds⟩, ⟨ga_InvalidKinds, gg_InvalidKinds, ex_InvalidKinds, hdc_InvalidKinds, xa_InvalidKinds, xn_InvalidKinds, xt_InvalidKinds, xm_InvalidKinds⟩,
    nf_InvalidKinds_position,
    _, PySem.W.mg_of X G a_InvalidProducts, ⟨_, _, _, _, _, _, _, _, ⟨EF_InvalidProducts, es_InvalidProducts⟩, eb_InvalidProducts, nf_InvalidProducts_position, (fun _ _ _ _ e => by rw [li_InvalidProducts] at e; cases e; rfl), kw_InvalidProducts⟩, ⟨ga_InvalidProducts, gg_InvalidProducts, ex_InvalidProducts, hdc_InvalidProducts⟩, ⟨ga_InvalidProducts, gg_InvalidProducts, ex_InvalidProducts, hdc_InvalidProducts, xa_InvalidProducts, xn_InvalidProducts, xt_InvalidProducts, xm_InvalidProducts⟩,
    nf_InvalidProducts_position,
    _, PySem.W.mg_of X G a_InvalidTexts, ⟨_, _, _, _, _, _, _, _, ⟨EF_InvalidTexts, es_InvalidTexts⟩, eb_InvalidTexts, nf_InvalidTexts_position, (fun _ _ _ _ e => by rw [li_InvalidTexts] at e; cases e; rfl), kw_InvalidTexts⟩, ⟨ga_InvalidTexts, gg_InvalidTexts, ex_InvalidTexts, hdc_InvalidTexts⟩, ⟨ga_InvalidTexts, gg_InvalidTexts, ex_InvalidTexts, hdc_InvalidTexts, xa_InvalidTexts, xn_InvalidTexts, xt_InvalidTexts, xm_InvalidTexts⟩,
    nf_InvalidTexts_position,
    _, PySem.W.mg_of X G a_InvalidPlaces, ⟨_, _, _, _, _, _, _, _, ⟨EF_InvalidPlaces, es_InvalidPlaces⟩, eb_InvalidPlaces, nf_InvalidPlaces_position, (fun _ _ _ _ e => by rw [li_InvalidPlaces] at e; cases e; rfl), kw_InvalidPlaces⟩, ⟨ga_InvalidPlaces, gg_InvalidPlaces, ex_InvalidPlaces, hdc_InvalidPlaces⟩, ⟨ga_InvalidPlaces, gg_InvalidPlaces, ex_InvalidPlaces, hdc_InvalidPlaces, xa_InvalidPlaces, xn_InvalidPlaces, xt_InvalidPlaces, xm_InvalidPlaces⟩,
    nf_InvalidPlaces_position,
    _, PySem.W.mg_of X G a_InvalidLevels, ⟨_, _, _, _, _, _, _, _, ⟨EF_InvalidLevels, es_InvalidLevels⟩, eb_InvalidLevels, nf_InvalidLevels_position, (fun _ _ _ _ e => by rw [li_InvalidLevels] at e; cases e; rfl), kw_InvalidLevels⟩, ⟨ga_InvalidLevels, gg_InvalidLevels, ex_InvalidLevels, hdc_InvalidLevels⟩, ⟨ga_InvalidLevels, gg_InvalidLevels, ex_InvalidLevels, hdc_InvalidLevels, xa_InvalidLevels, xn_InvalidLevels, xt_InvalidLevels, xm_InvalidLevels⟩,
    nf_InvalidLevels_position,
    _, PySem.W.mg_of X G a_InvalidRow, ⟨_, _, _, _, _, _, _, _, ⟨EF_InvalidRow, es_InvalidRow⟩, eb_InvalidRow, nf_InvalidRow_row, (fun _ _ _ _ e => by rw [li_InvalidRow] at e; cases e; rfl), kw_InvalidRow⟩, ⟨ga_InvalidRow, gg_InvalidRow, ex_InvalidRow, hdc_InvalidRow⟩, ⟨ga_InvalidRow, gg_InvalidRow, ex_InvalidRow, hdc_InvalidRow, xa_InvalidRow, xn_InvalidRow, xt_InvalidRow, xm_InvalidRow⟩,
    nf_InvalidRow_row,
    _, PySem.W.mg_of X G a_OtherLetters, ⟨_, _, _, _, _, _, _, _, ⟨EF_OtherLetters, es_OtherLetters⟩, eb_OtherLetters, ⟨nf_OtherLetters_one, nf_OtherLetters_other⟩, (fun _ _ _ _ e => by rw [li_OtherLetters] at e; cases e; rfl), kw_OtherLetters⟩, ⟨ga_OtherLetters, gg_OtherLetters, ex_OtherLetters, hdc_OtherLetters⟩, ⟨ga_OtherLetters, gg_OtherLetters, ex_OtherLetters, hdc_OtherLetters, xa_OtherLetters, xn_OtherLetters, xt_OtherLetters, xm_OtherLetters⟩,
    nf_OtherLetters_one,
    nf_OtherLetters_other,
    _, PySem.W.mg_of X G a_NotComeTo, ⟨_, _, _, _, _, _, _, _, ⟨EF_NotComeTo, es_NotComeTo⟩, eb_NotComeTo, nf_NotComeTo_place, (fun _ _ _ _ e => by rw [li_NotComeTo] at e; cases e; rfl), kw_NotComeTo⟩, ⟨ga_NotComeTo, gg_NotComeTo, ex_NotComeTo, hdc_NotComeTo⟩, ⟨ga_NotComeTo, gg_NotComeTo, ex_NotComeTo, hdc_NotComeTo, xa_NotComeTo, xn_NotComeTo, xt_NotComeTo, xm_NotComeTo⟩,
    nf_NotComeTo_place,
    _, PySem.W.mg_of X G a_NeverHeard, ⟨_, _, _, _, _, _, _, _, ⟨EF_NeverHeard, es_NeverHeard⟩, eb_NeverHeard, nf_NeverHeard_value, (fun _ _ _ _ e => by rw [li_NeverHeard] at e; cases e; rfl), kw_NeverHeard⟩, ⟨ga_NeverHeard, gg_NeverHeard, ex_NeverHeard, hdc_NeverHeard⟩, ⟨ga_NeverHeard, gg_NeverHeard, ex_NeverHeard, hdc_NeverHeard, xa_NeverHeard, xn_NeverHeard, xt_NeverHeard, xm_NeverHeard⟩,
    nf_NeverHeard_value,
    _, PySem.W.mg_of X G a_NothingToUndo, ⟨_, _, _, _, _, _, _, _, ⟨EF_NothingToUndo, es_NothingToUndo⟩, eb_NothingToUndo⟩, ⟨ga_NothingToUndo, gg_NothingToUndo, ex_NothingToUndo, hdc_NothingToUndo⟩, ⟨ga_NothingToUndo, gg_NothingToUndo, ex_NothingToUndo, hdc_NothingToUndo, xa_NothingToUndo, xn_NothingToUndo, xt_NothingToUndo, xm_NothingToUndo⟩,
    _, PySem.W.mg_of X G a_CommandFailed, ⟨_, _, _, _, _, _, _, _, ⟨EF_CommandFailed, es_CommandFailed⟩, eb_CommandFailed, nf_CommandFailed_position, (fun _ _ _ _ e => by rw [li_CommandFailed] at e; cases e; rfl), kw_CommandFailed⟩, ⟨ga_CommandFailed, gg_CommandFailed, ex_CommandFailed, hdc_CommandFailed⟩, ⟨ga_CommandFailed, gg_CommandFailed, ex_CommandFailed, hdc_CommandFailed, xa_CommandFailed, xn_CommandFailed, xt_CommandFailed, xm_CommandFailed⟩,
    nf_CommandFailed_position,
    _, PySem.W.mg_of X G a_TooMany, ⟨_, _, _, _, _, _, _, _, ⟨EF_TooMany, es_TooMany⟩, eb_TooMany, ⟨nf_TooMany_what, nf_TooMany_limit⟩, (fun _ _ _ _ e => by rw [li_TooMany] at e; cases e; rfl), kw_TooMany⟩, ⟨ga_TooMany, gg_TooMany, ex_TooMany, hdc_TooMany⟩, ⟨ga_TooMany, gg_TooMany, ex_TooMany, hdc_TooMany, xa_TooMany, xn_TooMany, xt_TooMany, xm_TooMany⟩,
    nf_TooMany_what,
    nf_TooMany_limit,
    _, _, ⟨F_law_pot, B_law_pot, PySem.W.mg_of X G a_law_pot⟩,
    _, _, ⟨F_law_draw, B_law_draw, PySem.W.mg_of X G a_law_draw⟩,
    _, _, ⟨F_law_pick, B_law_pick, PySem.W.mg_of X G a_law_pick⟩,
    _, _, ⟨F_law_grounds, B_law_grounds, PySem.W.mg_of X G a_law_grounds⟩,
    _, _, ⟨F_law_ground, B_law_ground, PySem.W.mg_of X G a_law_ground⟩,
    _, _, ⟨F_law_thing, B_law_thing, PySem.W.mg_of X G a_law_thing⟩,
    _, _, ⟨F_law_by_value, B_law_by_value, PySem.W.mg_of X G a_law_by_value⟩,
    _, _, ⟨F_law_by_named_value, B_law_by_named_value, PySem.W.mg_of X G a_law_by_named_value⟩,
    _, _, ⟨F_law_by_position, B_law_by_position, PySem.W.mg_of X G a_law_by_position⟩,
    _, _, ⟨F_law_by_named_position, B_law_by_named_position, PySem.W.mg_of X G a_law_by_named_position⟩,
    _, _, ⟨F_law_of_states, B_law_of_states, PySem.W.mg_of X G a_law_of_states⟩,
    _, _, ⟨F_law_each, B_law_each, PySem.W.mg_of X G a_law_each⟩,
    _, _, ⟨F_law_marks, B_law_marks, PySem.W.mg_of X G a_law_marks⟩,
    _, _, ⟨F_law_each_right, B_law_each_right, PySem.W.mg_of X G a_law_each_right⟩,
    _, _, ⟨F_law_values_right, B_law_values_right, PySem.W.mg_of X G a_law_values_right⟩,
    _, _, ⟨F_law_states_right, B_law_states_right, PySem.W.mg_of X G a_law_states_right⟩,
    _, _, ⟨F_law_thrown, B_law_thrown, PySem.W.mg_of X G a_law_thrown⟩,
    _, _, ⟨F_law_caught, B_law_caught, PySem.W.mg_of X G a_law_caught⟩,
    _, _, ⟨F_law_right, B_law_right, PySem.W.mg_of X G a_law_right⟩,
    _, _, ⟨F_law, B_law, PySem.W.mg_of X G a_law⟩,
    _, PySem.W.mg_of X G a_PartsError,
    _, PySem.W.mg_of X G a_StateError,
    _, PySem.W.mg_of X G a_LimitError,
    kt,
    kg,
    et,
    PySem.W.mg_none_of X G z_ArithmeticError,
    PySem.W.mg_none_of X G z_RuntimeError,
    PySem.W.mg_none_of X G z_ValueError,
    PySem.W.mg_none_of X G z_abs,
    PySem.W.mg_none_of X G z_all,
    PySem.W.mg_none_of X G z_any,
    PySem.W.mg_none_of X G z_divmod,
    PySem.W.mg_none_of X G z_enumerate,
    PySem.W.mg_none_of X G z_int,
    PySem.W.mg_none_of X G z_isinstance,
    PySem.W.mg_none_of X G z_len,
    PySem.W.mg_none_of X G z_max,
    PySem.W.mg_none_of X G z_min,
    PySem.W.mg_none_of X G z_range,
    PySem.W.mg_none_of X G z_repr,
    PySem.W.mg_none_of X G z_super⟩, rfl⟩
end Lw
open PySem PySem.W PyProof.Rows
set_option maxRecDepth 100000 in
set_option maxHeartbeats 0 in
theorem PySem.Challenge.cw_missedparts_k10_errors_by_families_holds : PySem.Challenge.rw_missedparts_k10_errors_by_families.Holds :=
  Lw.hd (by
  k_fill
  refine Att.attach_callB rfl rfl fun w s₀ s₁ mg mb fa o pm cd doc a vs ns G Y ho hd hcd hmg hobj hints hlen hbits hg => ?_
  have KX := PySem.W.kIn_of Y
  have GG := G.T.g
  refine' Lw.fin KX GG G.T.b G.T.builtins G.T.nolimit hg G.T.bmain hobj hints (Nat.le_trans hlen (by decide)) hmg (Lw.all_mk KX GG ?a_law_pot ?l_law_pot ?e_law_pot ?k_law_pot ?a_law_draw ?l_law_draw ?e_law_draw ?k_law_draw ?a_law_pick ?l_law_pick ?e_law_pick ?k_law_pick ?a_law_grounds ?l_law_grounds ?e_law_grounds ?k_law_grounds ?a_law_ground ?l_law_ground ?e_law_ground ?k_law_ground ?a_law_thing ?l_law_thing ?e_law_thing ?k_law_thing ?a_law_by_value ?l_law_by_value ?e_law_by_value ?k_law_by_value ?a_law_by_named_value ?l_law_by_named_value ?e_law_by_named_value ?k_law_by_named_value ?a_law_by_position ?l_law_by_position ?e_law_by_position ?k_law_by_position ?a_law_by_named_position ?l_law_by_named_position ?e_law_by_named_position ?k_law_by_named_position ?a_law_of_states ?l_law_of_states ?e_law_of_states ?k_law_of_states ?a_law_each ?l_law_each ?e_law_each ?k_law_each ?a_law_marks ?l_law_marks ?e_law_marks ?k_law_marks ?a_law_each_right ?l_law_each_right ?e_law_each_right ?k_law_each_right ?a_law_values_right ?l_law_values_right ?e_law_values_right ?k_law_values_right ?a_law_states_right ?l_law_states_right ?e_law_states_right ?k_law_states_right ?a_law_thrown ?l_law_thrown ?e_law_thrown ?k_law_thrown ?a_law_caught ?l_law_caught ?e_law_caught ?k_law_caught ?a_law_right ?l_law_right ?e_law_right ?k_law_right ?a_law ?l_law ?e_law ?k_law ?a_InvalidText ?lc_InvalidText ?ii_InvalidText ?li_InvalidText ?ei_InvalidText ?lk_InvalidText ?v2_InvalidText ?fl_InvalidText ?lcc_InvalidText ?su_InvalidText ?se_InvalidText ?sb_InvalidText ?op_InvalidText ?tp_InvalidText ?sa_InvalidText ?ti_InvalidText ?kc_InvalidText ?ex_InvalidText ?ty_InvalidText ?ga_InvalidText ?gg_InvalidText ?hdc_InvalidText ?ss_InvalidText ?nf_InvalidText_value ?a_InvalidLetters ?lc_InvalidLetters ?ii_InvalidLetters ?li_InvalidLetters ?ei_InvalidLetters ?lk_InvalidLetters ?v2_InvalidLetters ?fl_InvalidLetters ?lcc_InvalidLetters ?su_InvalidLetters ?se_InvalidLetters ?sb_InvalidLetters ?op_InvalidLetters ?tp_InvalidLetters ?sa_InvalidLetters ?ti_InvalidLetters ?kc_InvalidLetters ?ex_InvalidLetters ?ty_InvalidLetters ?ga_InvalidLetters ?gg_InvalidLetters ?hdc_InvalidLetters ?ss_InvalidLetters ?nf_InvalidLetters_value ?a_InvalidLetter ?lc_InvalidLetter ?ii_InvalidLetter ?li_InvalidLetter ?ei_InvalidLetter ?lk_InvalidLetter ?v2_InvalidLetter ?fl_InvalidLetter ?lcc_InvalidLetter ?su_InvalidLetter ?se_InvalidLetter ?sb_InvalidLetter ?op_InvalidLetter ?tp_InvalidLetter ?sa_InvalidLetter ?ti_InvalidLetter ?kc_InvalidLetter ?ex_InvalidLetter ?ty_InvalidLetter ?ga_InvalidLetter ?gg_InvalidLetter ?hdc_InvalidLetter ?ss_InvalidLetter ?nf_InvalidLetter_value ?a_InvalidNumber ?lc_InvalidNumber ?ii_InvalidNumber ?li_InvalidNumber ?ei_InvalidNumber ?lk_InvalidNumber ?v2_InvalidNumber ?fl_InvalidNumber ?lcc_InvalidNumber ?su_InvalidNumber ?se_InvalidNumber ?sb_InvalidNumber ?op_InvalidNumber ?tp_InvalidNumber ?sa_InvalidNumber ?ti_InvalidNumber ?kc_InvalidNumber ?ex_InvalidNumber ?ty_InvalidNumber ?ga_InvalidNumber ?gg_InvalidNumber ?hdc_InvalidNumber ?ss_InvalidNumber ?nf_InvalidNumber_value ?a_InvalidPlace ?lc_InvalidPlace ?ii_InvalidPlace ?li_InvalidPlace ?ei_InvalidPlace ?lk_InvalidPlace ?v2_InvalidPlace ?fl_InvalidPlace ?lcc_InvalidPlace ?su_InvalidPlace ?se_InvalidPlace ?sb_InvalidPlace ?op_InvalidPlace ?tp_InvalidPlace ?sa_InvalidPlace ?ti_InvalidPlace ?kc_InvalidPlace ?ex_InvalidPlace ?ty_InvalidPlace ?ga_InvalidPlace ?gg_InvalidPlace ?hdc_InvalidPlace ?ss_InvalidPlace ?nf_InvalidPlace_value ?a_InvalidMachine ?lc_InvalidMachine ?ii_InvalidMachine ?li_InvalidMachine ?ei_InvalidMachine ?lk_InvalidMachine ?v2_InvalidMachine ?fl_InvalidMachine ?lcc_InvalidMachine ?su_InvalidMachine ?se_InvalidMachine ?sb_InvalidMachine ?op_InvalidMachine ?tp_InvalidMachine ?sa_InvalidMachine ?ti_InvalidMachine ?kc_InvalidMachine ?ex_InvalidMachine ?ty_InvalidMachine ?ga_InvalidMachine ?gg_InvalidMachine ?hdc_InvalidMachine ?ss_InvalidMachine ?nf_InvalidMachine_value ?a_InvalidProduct ?lc_InvalidProduct ?ii_InvalidProduct ?li_InvalidProduct ?ei_InvalidProduct ?lk_InvalidProduct ?v2_InvalidProduct ?fl_InvalidProduct ?lcc_InvalidProduct ?su_InvalidProduct ?se_InvalidProduct ?sb_InvalidProduct ?op_InvalidProduct ?tp_InvalidProduct ?sa_InvalidProduct ?ti_InvalidProduct ?kc_InvalidProduct ?ex_InvalidProduct ?ty_InvalidProduct ?ga_InvalidProduct ?gg_InvalidProduct ?hdc_InvalidProduct ?ss_InvalidProduct ?nf_InvalidProduct_value ?a_InvalidSum ?lc_InvalidSum ?ii_InvalidSum ?li_InvalidSum ?ei_InvalidSum ?lk_InvalidSum ?v2_InvalidSum ?fl_InvalidSum ?lcc_InvalidSum ?su_InvalidSum ?se_InvalidSum ?sb_InvalidSum ?op_InvalidSum ?tp_InvalidSum ?sa_InvalidSum ?ti_InvalidSum ?kc_InvalidSum ?ex_InvalidSum ?ty_InvalidSum ?ga_InvalidSum ?gg_InvalidSum ?hdc_InvalidSum ?ss_InvalidSum ?nf_InvalidSum_value ?a_InvalidTest ?lc_InvalidTest ?ii_InvalidTest ?li_InvalidTest ?ei_InvalidTest ?lk_InvalidTest ?v2_InvalidTest ?fl_InvalidTest ?lcc_InvalidTest ?su_InvalidTest ?se_InvalidTest ?sb_InvalidTest ?op_InvalidTest ?tp_InvalidTest ?sa_InvalidTest ?ti_InvalidTest ?kc_InvalidTest ?ex_InvalidTest ?ty_InvalidTest ?ga_InvalidTest ?gg_InvalidTest ?hdc_InvalidTest ?ss_InvalidTest ?nf_InvalidTest_value ?a_InvalidLine ?lc_InvalidLine ?ii_InvalidLine ?li_InvalidLine ?ei_InvalidLine ?lk_InvalidLine ?v2_InvalidLine ?fl_InvalidLine ?lcc_InvalidLine ?su_InvalidLine ?se_InvalidLine ?sb_InvalidLine ?op_InvalidLine ?tp_InvalidLine ?sa_InvalidLine ?ti_InvalidLine ?kc_InvalidLine ?ex_InvalidLine ?ty_InvalidLine ?ga_InvalidLine ?gg_InvalidLine ?hdc_InvalidLine ?ss_InvalidLine ?nf_InvalidLine_value ?a_InvalidClaim ?lc_InvalidClaim ?ii_InvalidClaim ?li_InvalidClaim ?ei_InvalidClaim ?lk_InvalidClaim ?v2_InvalidClaim ?fl_InvalidClaim ?lcc_InvalidClaim ?su_InvalidClaim ?se_InvalidClaim ?sb_InvalidClaim ?op_InvalidClaim ?tp_InvalidClaim ?sa_InvalidClaim ?ti_InvalidClaim ?kc_InvalidClaim ?ex_InvalidClaim ?ty_InvalidClaim ?ga_InvalidClaim ?gg_InvalidClaim ?hdc_InvalidClaim ?ss_InvalidClaim ?nf_InvalidClaim_value ?a_InvalidCommand ?lc_InvalidCommand ?ii_InvalidCommand ?li_InvalidCommand ?ei_InvalidCommand ?lk_InvalidCommand ?v2_InvalidCommand ?fl_InvalidCommand ?lcc_InvalidCommand ?su_InvalidCommand ?se_InvalidCommand ?sb_InvalidCommand ?op_InvalidCommand ?tp_InvalidCommand ?sa_InvalidCommand ?ti_InvalidCommand ?kc_InvalidCommand ?ex_InvalidCommand ?ty_InvalidCommand ?ga_InvalidCommand ?gg_InvalidCommand ?hdc_InvalidCommand ?ss_InvalidCommand ?nf_InvalidCommand_value ?a_InvalidRows ?lc_InvalidRows ?ii_InvalidRows ?li_InvalidRows ?ei_InvalidRows ?lk_InvalidRows ?v2_InvalidRows ?fl_InvalidRows ?lcc_InvalidRows ?su_InvalidRows ?se_InvalidRows ?sb_InvalidRows ?op_InvalidRows ?tp_InvalidRows ?sa_InvalidRows ?ti_InvalidRows ?kc_InvalidRows ?ex_InvalidRows ?ty_InvalidRows ?ga_InvalidRows ?gg_InvalidRows ?hdc_InvalidRows ?ss_InvalidRows ?nf_InvalidRows_position ?a_InvalidKinds ?lc_InvalidKinds ?ii_InvalidKinds ?li_InvalidKinds ?ei_InvalidKinds ?lk_InvalidKinds ?v2_InvalidKinds ?fl_InvalidKinds ?lcc_InvalidKinds ?su_InvalidKinds ?se_InvalidKinds ?sb_InvalidKinds ?op_InvalidKinds ?tp_InvalidKinds ?sa_InvalidKinds ?ti_InvalidKinds ?kc_InvalidKinds ?ex_InvalidKinds ?ty_InvalidKinds ?ga_InvalidKinds ?gg_InvalidKinds ?hdc_InvalidKinds ?ss_InvalidKinds ?nf_InvalidKinds_position ?a_InvalidProducts ?lc_InvalidProducts ?ii_InvalidProducts ?li_InvalidProducts ?ei_InvalidProducts ?lk_InvalidProducts ?v2_InvalidProducts ?fl_InvalidProducts ?lcc_InvalidProducts ?su_InvalidProducts ?se_InvalidProducts ?sb_InvalidProducts ?op_InvalidProducts ?tp_InvalidProducts ?sa_InvalidProducts ?ti_InvalidProducts ?kc_InvalidProducts ?ex_InvalidProducts ?ty_InvalidProducts ?ga_InvalidProducts ?gg_InvalidProducts ?hdc_InvalidProducts ?ss_InvalidProducts ?nf_InvalidProducts_position ?a_InvalidTexts ?lc_InvalidTexts ?ii_InvalidTexts ?li_InvalidTexts ?ei_InvalidTexts ?lk_InvalidTexts ?v2_InvalidTexts ?fl_InvalidTexts ?lcc_InvalidTexts ?su_InvalidTexts ?se_InvalidTexts ?sb_InvalidTexts ?op_InvalidTexts ?tp_InvalidTexts ?sa_InvalidTexts ?ti_InvalidTexts ?kc_InvalidTexts ?ex_InvalidTexts ?ty_InvalidTexts ?ga_InvalidTexts ?gg_InvalidTexts ?hdc_InvalidTexts ?ss_InvalidTexts ?nf_InvalidTexts_position ?a_InvalidPlaces ?lc_InvalidPlaces ?ii_InvalidPlaces ?li_InvalidPlaces ?ei_InvalidPlaces ?lk_InvalidPlaces ?v2_InvalidPlaces ?fl_InvalidPlaces ?lcc_InvalidPlaces ?su_InvalidPlaces ?se_InvalidPlaces ?sb_InvalidPlaces ?op_InvalidPlaces ?tp_InvalidPlaces ?sa_InvalidPlaces ?ti_InvalidPlaces ?kc_InvalidPlaces ?ex_InvalidPlaces ?ty_InvalidPlaces ?ga_InvalidPlaces ?gg_InvalidPlaces ?hdc_InvalidPlaces ?ss_InvalidPlaces ?nf_InvalidPlaces_position ?a_InvalidLevels ?lc_InvalidLevels ?ii_InvalidLevels ?li_InvalidLevels ?ei_InvalidLevels ?lk_InvalidLevels ?v2_InvalidLevels ?fl_InvalidLevels ?lcc_InvalidLevels ?su_InvalidLevels ?se_InvalidLevels ?sb_InvalidLevels ?op_InvalidLevels ?tp_InvalidLevels ?sa_InvalidLevels ?ti_InvalidLevels ?kc_InvalidLevels ?ex_InvalidLevels ?ty_InvalidLevels ?ga_InvalidLevels ?gg_InvalidLevels ?hdc_InvalidLevels ?ss_InvalidLevels ?nf_InvalidLevels_position ?a_InvalidRow ?lc_InvalidRow ?ii_InvalidRow ?li_InvalidRow ?ei_InvalidRow ?lk_InvalidRow ?v2_InvalidRow ?fl_InvalidRow ?lcc_InvalidRow ?su_InvalidRow ?se_InvalidRow ?sb_InvalidRow ?op_InvalidRow ?tp_InvalidRow ?sa_InvalidRow ?ti_InvalidRow ?kc_InvalidRow ?ex_InvalidRow ?ty_InvalidRow ?ga_InvalidRow ?gg_InvalidRow ?hdc_InvalidRow ?ss_InvalidRow ?nf_InvalidRow_row ?a_OtherLetters ?lc_OtherLetters ?ii_OtherLetters ?li_OtherLetters ?ei_OtherLetters ?lk_OtherLetters ?v2_OtherLetters ?fl_OtherLetters ?lcc_OtherLetters ?su_OtherLetters ?se_OtherLetters ?sb_OtherLetters ?op_OtherLetters ?tp_OtherLetters ?sa_OtherLetters ?ti_OtherLetters ?kc_OtherLetters ?ex_OtherLetters ?ty_OtherLetters ?ga_OtherLetters ?gg_OtherLetters ?hdc_OtherLetters ?ss_OtherLetters ?nf_OtherLetters_one ?nf_OtherLetters_other ?a_NotComeTo ?lc_NotComeTo ?ii_NotComeTo ?li_NotComeTo ?ei_NotComeTo ?lk_NotComeTo ?v2_NotComeTo ?fl_NotComeTo ?lcc_NotComeTo ?su_NotComeTo ?se_NotComeTo ?sb_NotComeTo ?op_NotComeTo ?tp_NotComeTo ?sa_NotComeTo ?ti_NotComeTo ?kc_NotComeTo ?ex_NotComeTo ?ty_NotComeTo ?ga_NotComeTo ?gg_NotComeTo ?hdc_NotComeTo ?ss_NotComeTo ?nf_NotComeTo_place ?a_NeverHeard ?lc_NeverHeard ?ii_NeverHeard ?li_NeverHeard ?ei_NeverHeard ?lk_NeverHeard ?v2_NeverHeard ?fl_NeverHeard ?lcc_NeverHeard ?su_NeverHeard ?se_NeverHeard ?sb_NeverHeard ?op_NeverHeard ?tp_NeverHeard ?sa_NeverHeard ?ti_NeverHeard ?kc_NeverHeard ?ex_NeverHeard ?ty_NeverHeard ?ga_NeverHeard ?gg_NeverHeard ?hdc_NeverHeard ?ss_NeverHeard ?nf_NeverHeard_value ?a_NothingToUndo ?lc_NothingToUndo ?ii_NothingToUndo ?li_NothingToUndo ?ei_NothingToUndo ?lk_NothingToUndo ?v2_NothingToUndo ?fl_NothingToUndo ?lcc_NothingToUndo ?su_NothingToUndo ?se_NothingToUndo ?sb_NothingToUndo ?op_NothingToUndo ?tp_NothingToUndo ?sa_NothingToUndo ?ti_NothingToUndo ?kc_NothingToUndo ?ex_NothingToUndo ?ty_NothingToUndo ?ga_NothingToUndo ?gg_NothingToUndo ?hdc_NothingToUndo ?ss_NothingToUndo ?a_CommandFailed ?lc_CommandFailed ?ii_CommandFailed ?li_CommandFailed ?ei_CommandFailed ?lk_CommandFailed ?v2_CommandFailed ?fl_CommandFailed ?lcc_CommandFailed ?su_CommandFailed ?se_CommandFailed ?sb_CommandFailed ?op_CommandFailed ?tp_CommandFailed ?sa_CommandFailed ?ti_CommandFailed ?kc_CommandFailed ?ex_CommandFailed ?ty_CommandFailed ?ga_CommandFailed ?gg_CommandFailed ?hdc_CommandFailed ?ss_CommandFailed ?nf_CommandFailed_position ?a_TooMany ?lc_TooMany ?ii_TooMany ?li_TooMany ?ei_TooMany ?lk_TooMany ?v2_TooMany ?fl_TooMany ?lcc_TooMany ?su_TooMany ?se_TooMany ?sb_TooMany ?op_TooMany ?tp_TooMany ?sa_TooMany ?ti_TooMany ?kc_TooMany ?ex_TooMany ?ty_TooMany ?ga_TooMany ?gg_TooMany ?hdc_TooMany ?ss_TooMany ?nf_TooMany_what ?nf_TooMany_limit ?xa_InvalidText ?xn_InvalidText ?xt_InvalidText ?xm_InvalidText ?xa_InvalidLetters ?xn_InvalidLetters ?xt_InvalidLetters ?xm_InvalidLetters ?xa_InvalidLetter ?xn_InvalidLetter ?xt_InvalidLetter ?xm_InvalidLetter ?xa_InvalidNumber ?xn_InvalidNumber ?xt_InvalidNumber ?xm_InvalidNumber ?xa_InvalidPlace ?xn_InvalidPlace ?xt_InvalidPlace ?xm_InvalidPlace ?xa_InvalidMachine ?xn_InvalidMachine ?xt_InvalidMachine ?xm_InvalidMachine ?xa_InvalidProduct ?xn_InvalidProduct ?xt_InvalidProduct ?xm_InvalidProduct ?xa_InvalidSum ?xn_InvalidSum ?xt_InvalidSum ?xm_InvalidSum ?xa_InvalidTest ?xn_InvalidTest ?xt_InvalidTest ?xm_InvalidTest ?xa_InvalidLine ?xn_InvalidLine ?xt_InvalidLine ?xm_InvalidLine ?xa_InvalidClaim ?xn_InvalidClaim ?xt_InvalidClaim ?xm_InvalidClaim ?xa_InvalidCommand ?xn_InvalidCommand ?xt_InvalidCommand ?xm_InvalidCommand ?xa_InvalidRows ?xn_InvalidRows ?xt_InvalidRows ?xm_InvalidRows ?xa_InvalidKinds ?xn_InvalidKinds ?xt_InvalidKinds ?xm_InvalidKinds ?xa_InvalidProducts ?xn_InvalidProducts ?xt_InvalidProducts ?xm_InvalidProducts ?xa_InvalidTexts ?xn_InvalidTexts ?xt_InvalidTexts ?xm_InvalidTexts ?xa_InvalidPlaces ?xn_InvalidPlaces ?xt_InvalidPlaces ?xm_InvalidPlaces ?xa_InvalidLevels ?xn_InvalidLevels ?xt_InvalidLevels ?xm_InvalidLevels ?xa_InvalidRow ?xn_InvalidRow ?xt_InvalidRow ?xm_InvalidRow ?xa_OtherLetters ?xn_OtherLetters ?xt_OtherLetters ?xm_OtherLetters ?xa_NotComeTo ?xn_NotComeTo ?xt_NotComeTo ?xm_NotComeTo ?xa_NeverHeard ?xn_NeverHeard ?xt_NeverHeard ?xm_NeverHeard ?xa_NothingToUndo ?xn_NothingToUndo ?xt_NothingToUndo ?xm_NothingToUndo ?xa_CommandFailed ?xn_CommandFailed ?xt_CommandFailed ?xm_CommandFailed ?xa_TooMany ?xn_TooMany ?xt_TooMany ?xm_TooMany ?a_PartsError ?a_StateError ?a_LimitError ?kt ?kg ?et ?z_ArithmeticError ?z_RuntimeError ?z_ValueError ?z_abs ?z_all ?z_any ?z_divmod ?z_enumerate ?z_int ?z_isinstance ?z_len ?z_max ?z_min ?z_range ?z_repr ?z_super)
  (case a_law_pot => k_is); (case l_law_pot => k_is); (case e_law_pot => k_is); (case k_law_pot => k_is); (case a_law_draw => k_is); (case l_law_draw => k_is); (case e_law_draw => k_is); (case k_law_draw => k_is); (case a_law_pick => k_is); (case l_law_pick => k_is); (case e_law_pick => k_is); (case k_law_pick => k_is); (case a_law_grounds => k_is); (case l_law_grounds => k_is); (case e_law_grounds => k_is); (case k_law_grounds => k_is); (case a_law_ground => k_is); (case l_law_ground => k_is); (case e_law_ground => k_is); (case k_law_ground => k_is); (case a_law_thing => k_is); (case l_law_thing => k_is); (case e_law_thing => k_is); (case k_law_thing => k_is); (case a_law_by_value => k_is); (case l_law_by_value => k_is); (case e_law_by_value => k_is); (case k_law_by_value => k_is); (case a_law_by_named_value => k_is); (case l_law_by_named_value => k_is); (case e_law_by_named_value => k_is); (case k_law_by_named_value => k_is); (case a_law_by_position => k_is); (case l_law_by_position => k_is); (case e_law_by_position => k_is); (case k_law_by_position => k_is); (case a_law_by_named_position => k_is); (case l_law_by_named_position => k_is); (case e_law_by_named_position => k_is); (case k_law_by_named_position => k_is); (case a_law_of_states => k_is); (case l_law_of_states => k_is); (case e_law_of_states => k_is); (case k_law_of_states => k_is); (case a_law_each => k_is); (case l_law_each => k_is); (case e_law_each => k_is); (case k_law_each => k_is); (case a_law_marks => k_is); (case l_law_marks => k_is); (case e_law_marks => k_is); (case k_law_marks => k_is); (case a_law_each_right => k_is); (case l_law_each_right => k_is); (case e_law_each_right => k_is); (case k_law_each_right => k_is); (case a_law_values_right => k_is); (case l_law_values_right => k_is); (case e_law_values_right => k_is); (case k_law_values_right => k_is); (case a_law_states_right => k_is); (case l_law_states_right => k_is); (case e_law_states_right => k_is); (case k_law_states_right => k_is); (case a_law_thrown => k_is); (case l_law_thrown => k_is); (case e_law_thrown => k_is); (case k_law_thrown => k_is); (case a_law_caught => k_is); (case l_law_caught => k_is); (case e_law_caught => k_is); (case k_law_caught => k_is); (case a_law_right => k_is); (case l_law_right => k_is); (case e_law_right => k_is); (case k_law_right => k_is); (case a_law => k_is); (case l_law => k_is); (case e_law => k_is); (case k_law => k_is); (case a_InvalidText => k_is); (case lc_InvalidText => k_is); (case ii_InvalidText => k_is); (case li_InvalidText => k_is); (case ei_InvalidText => k_is); (case lk_InvalidText => k_is); (case v2_InvalidText => rfl); (case fl_InvalidText => first | rfl | decide +kernel); (case lcc_InvalidText => k_is); (case su_InvalidText => ks_is); (case se_InvalidText => k_is); (case sb_InvalidText => k_is); (case op_InvalidText => k_is); (case tp_InvalidText => decide +kernel); (case sa_InvalidText => k_is); (case ti_InvalidText => k_is); (case kc_InvalidText => k_is); (case ex_InvalidText => k_is); (case ty_InvalidText => k_is); (case ga_InvalidText => k_is); (case gg_InvalidText => k_is); (case hdc_InvalidText => k_is); (case ss_InvalidText => k_is); (case nf_InvalidText_value => k_is); (case a_InvalidLetters => k_is); (case lc_InvalidLetters => k_is); (case ii_InvalidLetters => k_is); (case li_InvalidLetters => k_is); (case ei_InvalidLetters => k_is); (case lk_InvalidLetters => k_is); (case v2_InvalidLetters => rfl); (case fl_InvalidLetters => first | rfl | decide +kernel); (case lcc_InvalidLetters => k_is); (case su_InvalidLetters => ks_is); (case se_InvalidLetters => k_is); (case sb_InvalidLetters => k_is); (case op_InvalidLetters => k_is); (case tp_InvalidLetters => decide +kernel); (case sa_InvalidLetters => k_is); (case ti_InvalidLetters => k_is); (case kc_InvalidLetters => k_is); (case ex_InvalidLetters => k_is); (case ty_InvalidLetters => k_is); (case ga_InvalidLetters => k_is); (case gg_InvalidLetters => k_is); (case hdc_InvalidLetters => k_is); (case ss_InvalidLetters => k_is); (case nf_InvalidLetters_value => k_is); (case a_InvalidLetter => k_is); (case lc_InvalidLetter => k_is); (case ii_InvalidLetter => k_is); (case li_InvalidLetter => k_is); (case ei_InvalidLetter => k_is); (case lk_InvalidLetter => k_is); (case v2_InvalidLetter => rfl); (case fl_InvalidLetter => first | rfl | decide +kernel); (case lcc_InvalidLetter => k_is); (case su_InvalidLetter => ks_is); (case se_InvalidLetter => k_is); (case sb_InvalidLetter => k_is); (case op_InvalidLetter => k_is); (case tp_InvalidLetter => decide +kernel); (case sa_InvalidLetter => k_is); (case ti_InvalidLetter => k_is); (case kc_InvalidLetter => k_is); (case ex_InvalidLetter => k_is); (case ty_InvalidLetter => k_is); (case ga_InvalidLetter => k_is); (case gg_InvalidLetter => k_is); (case hdc_InvalidLetter => k_is); (case ss_InvalidLetter => k_is); (case nf_InvalidLetter_value => k_is); (case a_InvalidNumber => k_is); (case lc_InvalidNumber => k_is); (case ii_InvalidNumber => k_is); (case li_InvalidNumber => k_is); (case ei_InvalidNumber => k_is); (case lk_InvalidNumber => k_is); (case v2_InvalidNumber => rfl); (case fl_InvalidNumber => first | rfl | decide +kernel); (case lcc_InvalidNumber => k_is); (case su_InvalidNumber => ks_is); (case se_InvalidNumber => k_is); (case sb_InvalidNumber => k_is); (case op_InvalidNumber => k_is); (case tp_InvalidNumber => decide +kernel); (case sa_InvalidNumber => k_is); (case ti_InvalidNumber => k_is); (case kc_InvalidNumber => k_is); (case ex_InvalidNumber => k_is); (case ty_InvalidNumber => k_is); (case ga_InvalidNumber => k_is); (case gg_InvalidNumber => k_is); (case hdc_InvalidNumber => k_is); (case ss_InvalidNumber => k_is); (case nf_InvalidNumber_value => k_is); (case a_InvalidPlace => k_is); (case lc_InvalidPlace => k_is); (case ii_InvalidPlace => k_is); (case li_InvalidPlace => k_is); (case ei_InvalidPlace => k_is); (case lk_InvalidPlace => k_is); (case v2_InvalidPlace => rfl); (case fl_InvalidPlace => first | rfl | decide +kernel); (case lcc_InvalidPlace => k_is); (case su_InvalidPlace => ks_is); (case se_InvalidPlace => k_is); (case sb_InvalidPlace => k_is); (case op_InvalidPlace => k_is); (case tp_InvalidPlace => decide +kernel); (case sa_InvalidPlace => k_is); (case ti_InvalidPlace => k_is); (case kc_InvalidPlace => k_is); (case ex_InvalidPlace => k_is); (case ty_InvalidPlace => k_is); (case ga_InvalidPlace => k_is); (case gg_InvalidPlace => k_is); (case hdc_InvalidPlace => k_is); (case ss_InvalidPlace => k_is); (case nf_InvalidPlace_value => k_is); (case a_InvalidMachine => k_is); (case lc_InvalidMachine => k_is); (case ii_InvalidMachine => k_is); (case li_InvalidMachine => k_is); (case ei_InvalidMachine => k_is); (case lk_InvalidMachine => k_is); (case v2_InvalidMachine => rfl); (case fl_InvalidMachine => first | rfl | decide +kernel); (case lcc_InvalidMachine => k_is); (case su_InvalidMachine => ks_is); (case se_InvalidMachine => k_is); (case sb_InvalidMachine => k_is); (case op_InvalidMachine => k_is); (case tp_InvalidMachine => decide +kernel); (case sa_InvalidMachine => k_is); (case ti_InvalidMachine => k_is); (case kc_InvalidMachine => k_is); (case ex_InvalidMachine => k_is); (case ty_InvalidMachine => k_is); (case ga_InvalidMachine => k_is); (case gg_InvalidMachine => k_is); (case hdc_InvalidMachine => k_is); (case ss_InvalidMachine => k_is); (case nf_InvalidMachine_value => k_is); (case a_InvalidProduct => k_is); (case lc_InvalidProduct => k_is); (case ii_InvalidProduct => k_is); (case li_InvalidProduct => k_is); (case ei_InvalidProduct => k_is); (case lk_InvalidProduct => k_is); (case v2_InvalidProduct => rfl); (case fl_InvalidProduct => first | rfl | decide +kernel); (case lcc_InvalidProduct => k_is); (case su_InvalidProduct => ks_is); (case se_InvalidProduct => k_is); (case sb_InvalidProduct => k_is); (case op_InvalidProduct => k_is); (case tp_InvalidProduct => decide +kernel); (case sa_InvalidProduct => k_is); (case ti_InvalidProduct => k_is); (case kc_InvalidProduct => k_is); (case ex_InvalidProduct => k_is); (case ty_InvalidProduct => k_is); (case ga_InvalidProduct => k_is); (case gg_InvalidProduct => k_is); (case hdc_InvalidProduct => k_is); (case ss_InvalidProduct => k_is); (case nf_InvalidProduct_value => k_is); (case a_InvalidSum => k_is); (case lc_InvalidSum => k_is); (case ii_InvalidSum => k_is); (case li_InvalidSum => k_is); (case ei_InvalidSum => k_is); (case lk_InvalidSum => k_is); (case v2_InvalidSum => rfl); (case fl_InvalidSum => first | rfl | decide +kernel); (case lcc_InvalidSum => k_is); (case su_InvalidSum => ks_is); (case se_InvalidSum => k_is); (case sb_InvalidSum => k_is); (case op_InvalidSum => k_is); (case tp_InvalidSum => decide +kernel); (case sa_InvalidSum => k_is); (case ti_InvalidSum => k_is); (case kc_InvalidSum => k_is); (case ex_InvalidSum => k_is); (case ty_InvalidSum => k_is); (case ga_InvalidSum => k_is); (case gg_InvalidSum => k_is); (case hdc_InvalidSum => k_is); (case ss_InvalidSum => k_is); (case nf_InvalidSum_value => k_is); (case a_InvalidTest => k_is); (case lc_InvalidTest => k_is); (case ii_InvalidTest => k_is); (case li_InvalidTest => k_is); (case ei_InvalidTest => k_is); (case lk_InvalidTest => k_is); (case v2_InvalidTest => rfl); (case fl_InvalidTest => first | rfl | decide +kernel); (case lcc_InvalidTest => k_is); (case su_InvalidTest => ks_is); (case se_InvalidTest => k_is); (case sb_InvalidTest => k_is); (case op_InvalidTest => k_is); (case tp_InvalidTest => decide +kernel); (case sa_InvalidTest => k_is); (case ti_InvalidTest => k_is); (case kc_InvalidTest => k_is); (case ex_InvalidTest => k_is); (case ty_InvalidTest => k_is); (case ga_InvalidTest => k_is); (case gg_InvalidTest => k_is); (case hdc_InvalidTest => k_is); (case ss_InvalidTest => k_is); (case nf_InvalidTest_value => k_is); (case a_InvalidLine => k_is); (case lc_InvalidLine => k_is); (case ii_InvalidLine => k_is); (case li_InvalidLine => k_is); (case ei_InvalidLine => k_is); (case lk_InvalidLine => k_is); (case v2_InvalidLine => rfl); (case fl_InvalidLine => first | rfl | decide +kernel); (case lcc_InvalidLine => k_is); (case su_InvalidLine => ks_is); (case se_InvalidLine => k_is); (case sb_InvalidLine => k_is); (case op_InvalidLine => k_is); (case tp_InvalidLine => decide +kernel); (case sa_InvalidLine => k_is); (case ti_InvalidLine => k_is); (case kc_InvalidLine => k_is); (case ex_InvalidLine => k_is); (case ty_InvalidLine => k_is); (case ga_InvalidLine => k_is); (case gg_InvalidLine => k_is); (case hdc_InvalidLine => k_is); (case ss_InvalidLine => k_is); (case nf_InvalidLine_value => k_is); (case a_InvalidClaim => k_is); (case lc_InvalidClaim => k_is); (case ii_InvalidClaim => k_is); (case li_InvalidClaim => k_is); (case ei_InvalidClaim => k_is); (case lk_InvalidClaim => k_is); (case v2_InvalidClaim => rfl); (case fl_InvalidClaim => first | rfl | decide +kernel); (case lcc_InvalidClaim => k_is); (case su_InvalidClaim => ks_is); (case se_InvalidClaim => k_is); (case sb_InvalidClaim => k_is); (case op_InvalidClaim => k_is); (case tp_InvalidClaim => decide +kernel); (case sa_InvalidClaim => k_is); (case ti_InvalidClaim => k_is); (case kc_InvalidClaim => k_is); (case ex_InvalidClaim => k_is); (case ty_InvalidClaim => k_is); (case ga_InvalidClaim => k_is); (case gg_InvalidClaim => k_is); (case hdc_InvalidClaim => k_is); (case ss_InvalidClaim => k_is); (case nf_InvalidClaim_value => k_is); (case a_InvalidCommand => k_is); (case lc_InvalidCommand => k_is); (case ii_InvalidCommand => k_is); (case li_InvalidCommand => k_is); (case ei_InvalidCommand => k_is); (case lk_InvalidCommand => k_is); (case v2_InvalidCommand => rfl); (case fl_InvalidCommand => first | rfl | decide +kernel); (case lcc_InvalidCommand => k_is); (case su_InvalidCommand => ks_is); (case se_InvalidCommand => k_is); (case sb_InvalidCommand => k_is); (case op_InvalidCommand => k_is); (case tp_InvalidCommand => decide +kernel); (case sa_InvalidCommand => k_is); (case ti_InvalidCommand => k_is); (case kc_InvalidCommand => k_is); (case ex_InvalidCommand => k_is); (case ty_InvalidCommand => k_is); (case ga_InvalidCommand => k_is); (case gg_InvalidCommand => k_is); (case hdc_InvalidCommand => k_is); (case ss_InvalidCommand => k_is); (case nf_InvalidCommand_value => k_is); (case a_InvalidRows => k_is); (case lc_InvalidRows => k_is); (case ii_InvalidRows => k_is); (case li_InvalidRows => k_is); (case ei_InvalidRows => k_is); (case lk_InvalidRows => k_is); (case v2_InvalidRows => rfl); (case fl_InvalidRows => first | rfl | decide +kernel); (case lcc_InvalidRows => k_is); (case su_InvalidRows => ks_is); (case se_InvalidRows => k_is); (case sb_InvalidRows => k_is); (case op_InvalidRows => k_is); (case tp_InvalidRows => decide +kernel); (case sa_InvalidRows => k_is); (case ti_InvalidRows => k_is); (case kc_InvalidRows => k_is); (case ex_InvalidRows => k_is); (case ty_InvalidRows => k_is); (case ga_InvalidRows => k_is); (case gg_InvalidRows => k_is); (case hdc_InvalidRows => k_is); (case ss_InvalidRows => k_is); (case nf_InvalidRows_position => k_is); (case a_InvalidKinds => k_is); (case lc_InvalidKinds => k_is); (case ii_InvalidKinds => k_is); (case li_InvalidKinds => k_is); (case ei_InvalidKinds => k_is); (case lk_InvalidKinds => k_is); (case v2_InvalidKinds => rfl); (case fl_InvalidKinds => first | rfl | decide +kernel); (case lcc_InvalidKinds => k_is); (case su_InvalidKinds => ks_is); (case se_InvalidKinds => k_is); (case sb_InvalidKinds => k_is); (case op_InvalidKinds => k_is); (case tp_InvalidKinds => decide +kernel); (case sa_InvalidKinds => k_is); (case ti_InvalidKinds => k_is); (case kc_InvalidKinds => k_is); (case ex_InvalidKinds => k_is); (case ty_InvalidKinds => k_is); (case ga_InvalidKinds => k_is); (case gg_InvalidKinds => k_is); (case hdc_InvalidKinds => k_is); (case ss_InvalidKinds => k_is); (case nf_InvalidKinds_position => k_is); (case a_InvalidProducts => k_is); (case lc_InvalidProducts => k_is); (case ii_InvalidProducts => k_is); (case li_InvalidProducts => k_is); (case ei_InvalidProducts => k_is); (case lk_InvalidProducts => k_is); (case v2_InvalidProducts => rfl); (case fl_InvalidProducts => first | rfl | decide +kernel); (case lcc_InvalidProducts => k_is); (case su_InvalidProducts => ks_is); (case se_InvalidProducts => k_is); (case sb_InvalidProducts => k_is); (case op_InvalidProducts => k_is); (case tp_InvalidProducts => decide +kernel); (case sa_InvalidProducts => k_is); (case ti_InvalidProducts => k_is); (case kc_InvalidProducts => k_is); (case ex_InvalidProducts => k_is); (case ty_InvalidProducts => k_is); (case ga_InvalidProducts => k_is); (case gg_InvalidProducts => k_is); (case hdc_InvalidProducts => k_is); (case ss_InvalidProducts => k_is); (case nf_InvalidProducts_position => k_is); (case a_InvalidTexts => k_is); (case lc_InvalidTexts => k_is); (case ii_InvalidTexts => k_is); (case li_InvalidTexts => k_is); (case ei_InvalidTexts => k_is); (case lk_InvalidTexts => k_is); (case v2_InvalidTexts => rfl); (case fl_InvalidTexts => first | rfl | decide +kernel); (case lcc_InvalidTexts => k_is); (case su_InvalidTexts => ks_is); (case se_InvalidTexts => k_is); (case sb_InvalidTexts => k_is); (case op_InvalidTexts => k_is); (case tp_InvalidTexts => decide +kernel); (case sa_InvalidTexts => k_is); (case ti_InvalidTexts => k_is); (case kc_InvalidTexts => k_is); (case ex_InvalidTexts => k_is); (case ty_InvalidTexts => k_is); (case ga_InvalidTexts => k_is); (case gg_InvalidTexts => k_is); (case hdc_InvalidTexts => k_is); (case ss_InvalidTexts => k_is); (case nf_InvalidTexts_position => k_is); (case a_InvalidPlaces => k_is); (case lc_InvalidPlaces => k_is); (case ii_InvalidPlaces => k_is); (case li_InvalidPlaces => k_is); (case ei_InvalidPlaces => k_is); (case lk_InvalidPlaces => k_is); (case v2_InvalidPlaces => rfl); (case fl_InvalidPlaces => first | rfl | decide +kernel); (case lcc_InvalidPlaces => k_is); (case su_InvalidPlaces => ks_is); (case se_InvalidPlaces => k_is); (case sb_InvalidPlaces => k_is); (case op_InvalidPlaces => k_is); (case tp_InvalidPlaces => decide +kernel); (case sa_InvalidPlaces => k_is); (case ti_InvalidPlaces => k_is); (case kc_InvalidPlaces => k_is); (case ex_InvalidPlaces => k_is); (case ty_InvalidPlaces => k_is); (case ga_InvalidPlaces => k_is); (case gg_InvalidPlaces => k_is); (case hdc_InvalidPlaces => k_is); (case ss_InvalidPlaces => k_is); (case nf_InvalidPlaces_position => k_is); (case a_InvalidLevels => k_is); (case lc_InvalidLevels => k_is); (case ii_InvalidLevels => k_is); (case li_InvalidLevels => k_is); (case ei_InvalidLevels => k_is); (case lk_InvalidLevels => k_is); (case v2_InvalidLevels => rfl); (case fl_InvalidLevels => first | rfl | decide +kernel); (case lcc_InvalidLevels => k_is); (case su_InvalidLevels => ks_is); (case se_InvalidLevels => k_is); (case sb_InvalidLevels => k_is); (case op_InvalidLevels => k_is); (case tp_InvalidLevels => decide +kernel); (case sa_InvalidLevels => k_is); (case ti_InvalidLevels => k_is); (case kc_InvalidLevels => k_is); (case ex_InvalidLevels => k_is); (case ty_InvalidLevels => k_is); (case ga_InvalidLevels => k_is); (case gg_InvalidLevels => k_is); (case hdc_InvalidLevels => k_is); (case ss_InvalidLevels => k_is); (case nf_InvalidLevels_position => k_is); (case a_InvalidRow => k_is); (case lc_InvalidRow => k_is); (case ii_InvalidRow => k_is); (case li_InvalidRow => k_is); (case ei_InvalidRow => k_is); (case lk_InvalidRow => k_is); (case v2_InvalidRow => rfl); (case fl_InvalidRow => first | rfl | decide +kernel); (case lcc_InvalidRow => k_is); (case su_InvalidRow => ks_is); (case se_InvalidRow => k_is); (case sb_InvalidRow => k_is); (case op_InvalidRow => k_is); (case tp_InvalidRow => decide +kernel); (case sa_InvalidRow => k_is); (case ti_InvalidRow => k_is); (case kc_InvalidRow => k_is); (case ex_InvalidRow => k_is); (case ty_InvalidRow => k_is); (case ga_InvalidRow => k_is); (case gg_InvalidRow => k_is); (case hdc_InvalidRow => k_is); (case ss_InvalidRow => k_is); (case nf_InvalidRow_row => k_is); (case a_OtherLetters => k_is); (case lc_OtherLetters => k_is); (case ii_OtherLetters => k_is); (case li_OtherLetters => k_is); (case ei_OtherLetters => k_is); (case lk_OtherLetters => k_is); (case v2_OtherLetters => rfl); (case fl_OtherLetters => first | rfl | decide +kernel); (case lcc_OtherLetters => k_is); (case su_OtherLetters => ks_is); (case se_OtherLetters => k_is); (case sb_OtherLetters => k_is); (case op_OtherLetters => k_is); (case tp_OtherLetters => decide +kernel); (case sa_OtherLetters => k_is); (case ti_OtherLetters => k_is); (case kc_OtherLetters => k_is); (case ex_OtherLetters => k_is); (case ty_OtherLetters => k_is); (case ga_OtherLetters => k_is); (case gg_OtherLetters => k_is); (case hdc_OtherLetters => k_is); (case ss_OtherLetters => k_is); (case nf_OtherLetters_one => k_is); (case nf_OtherLetters_other => k_is); (case a_NotComeTo => k_is); (case lc_NotComeTo => k_is); (case ii_NotComeTo => k_is); (case li_NotComeTo => k_is); (case ei_NotComeTo => k_is); (case lk_NotComeTo => k_is); (case v2_NotComeTo => rfl); (case fl_NotComeTo => first | rfl | decide +kernel); (case lcc_NotComeTo => k_is); (case su_NotComeTo => ks_is); (case se_NotComeTo => k_is); (case sb_NotComeTo => k_is); (case op_NotComeTo => k_is); (case tp_NotComeTo => decide +kernel); (case sa_NotComeTo => k_is); (case ti_NotComeTo => k_is); (case kc_NotComeTo => k_is); (case ex_NotComeTo => k_is); (case ty_NotComeTo => k_is); (case ga_NotComeTo => k_is); (case gg_NotComeTo => k_is); (case hdc_NotComeTo => k_is); (case ss_NotComeTo => k_is); (case nf_NotComeTo_place => k_is); (case a_NeverHeard => k_is); (case lc_NeverHeard => k_is); (case ii_NeverHeard => k_is); (case li_NeverHeard => k_is); (case ei_NeverHeard => k_is); (case lk_NeverHeard => k_is); (case v2_NeverHeard => rfl); (case fl_NeverHeard => first | rfl | decide +kernel); (case lcc_NeverHeard => k_is); (case su_NeverHeard => ks_is); (case se_NeverHeard => k_is); (case sb_NeverHeard => k_is); (case op_NeverHeard => k_is); (case tp_NeverHeard => decide +kernel); (case sa_NeverHeard => k_is); (case ti_NeverHeard => k_is); (case kc_NeverHeard => k_is); (case ex_NeverHeard => k_is); (case ty_NeverHeard => k_is); (case ga_NeverHeard => k_is); (case gg_NeverHeard => k_is); (case hdc_NeverHeard => k_is); (case ss_NeverHeard => k_is); (case nf_NeverHeard_value => k_is); (case a_NothingToUndo => k_is); (case lc_NothingToUndo => k_is); (case ii_NothingToUndo => k_is); (case li_NothingToUndo => k_is); (case ei_NothingToUndo => k_is); (case lk_NothingToUndo => k_is); (case v2_NothingToUndo => rfl); (case fl_NothingToUndo => first | rfl | decide +kernel); (case lcc_NothingToUndo => k_is); (case su_NothingToUndo => ks_is); (case se_NothingToUndo => k_is); (case sb_NothingToUndo => k_is); (case op_NothingToUndo => k_is); (case tp_NothingToUndo => decide +kernel); (case sa_NothingToUndo => k_is); (case ti_NothingToUndo => k_is); (case kc_NothingToUndo => k_is); (case ex_NothingToUndo => k_is); (case ty_NothingToUndo => k_is); (case ga_NothingToUndo => k_is); (case gg_NothingToUndo => k_is); (case hdc_NothingToUndo => k_is); (case ss_NothingToUndo => k_is); (case a_CommandFailed => k_is); (case lc_CommandFailed => k_is); (case ii_CommandFailed => k_is); (case li_CommandFailed => k_is); (case ei_CommandFailed => k_is); (case lk_CommandFailed => k_is); (case v2_CommandFailed => rfl); (case fl_CommandFailed => first | rfl | decide +kernel); (case lcc_CommandFailed => k_is); (case su_CommandFailed => ks_is); (case se_CommandFailed => k_is); (case sb_CommandFailed => k_is); (case op_CommandFailed => k_is); (case tp_CommandFailed => decide +kernel); (case sa_CommandFailed => k_is); (case ti_CommandFailed => k_is); (case kc_CommandFailed => k_is); (case ex_CommandFailed => k_is); (case ty_CommandFailed => k_is); (case ga_CommandFailed => k_is); (case gg_CommandFailed => k_is); (case hdc_CommandFailed => k_is); (case ss_CommandFailed => k_is); (case nf_CommandFailed_position => k_is); (case a_TooMany => k_is); (case lc_TooMany => k_is); (case ii_TooMany => k_is); (case li_TooMany => k_is); (case ei_TooMany => k_is); (case lk_TooMany => k_is); (case v2_TooMany => rfl); (case fl_TooMany => first | rfl | decide +kernel); (case lcc_TooMany => k_is); (case su_TooMany => ks_is); (case se_TooMany => k_is); (case sb_TooMany => k_is); (case op_TooMany => k_is); (case tp_TooMany => decide +kernel); (case sa_TooMany => k_is); (case ti_TooMany => k_is); (case kc_TooMany => k_is); (case ex_TooMany => k_is); (case ty_TooMany => k_is); (case ga_TooMany => k_is); (case gg_TooMany => k_is); (case hdc_TooMany => k_is); (case ss_TooMany => k_is); (case nf_TooMany_what => k_is); (case nf_TooMany_limit => k_is); (case xa_InvalidText => k_is); (case xn_InvalidText => k_is); (case xt_InvalidText => k_is); (case xm_InvalidText => k_is); (case xa_InvalidLetters => k_is); (case xn_InvalidLetters => k_is); (case xt_InvalidLetters => k_is); (case xm_InvalidLetters => k_is); (case xa_InvalidLetter => k_is); (case xn_InvalidLetter => k_is); (case xt_InvalidLetter => k_is); (case xm_InvalidLetter => k_is); (case xa_InvalidNumber => k_is); (case xn_InvalidNumber => k_is); (case xt_InvalidNumber => k_is); (case xm_InvalidNumber => k_is); (case xa_InvalidPlace => k_is); (case xn_InvalidPlace => k_is); (case xt_InvalidPlace => k_is); (case xm_InvalidPlace => k_is); (case xa_InvalidMachine => k_is); (case xn_InvalidMachine => k_is); (case xt_InvalidMachine => k_is); (case xm_InvalidMachine => k_is); (case xa_InvalidProduct => k_is); (case xn_InvalidProduct => k_is); (case xt_InvalidProduct => k_is); (case xm_InvalidProduct => k_is); (case xa_InvalidSum => k_is); (case xn_InvalidSum => k_is); (case xt_InvalidSum => k_is); (case xm_InvalidSum => k_is); (case xa_InvalidTest => k_is); (case xn_InvalidTest => k_is); (case xt_InvalidTest => k_is); (case xm_InvalidTest => k_is); (case xa_InvalidLine => k_is); (case xn_InvalidLine => k_is); (case xt_InvalidLine => k_is); (case xm_InvalidLine => k_is); (case xa_InvalidClaim => k_is); (case xn_InvalidClaim => k_is); (case xt_InvalidClaim => k_is); (case xm_InvalidClaim => k_is); (case xa_InvalidCommand => k_is); (case xn_InvalidCommand => k_is); (case xt_InvalidCommand => k_is); (case xm_InvalidCommand => k_is); (case xa_InvalidRows => k_is); (case xn_InvalidRows => k_is); (case xt_InvalidRows => k_is); (case xm_InvalidRows => k_is); (case xa_InvalidKinds => k_is); (case xn_InvalidKinds => k_is); (case xt_InvalidKinds => k_is); (case xm_InvalidKinds => k_is); (case xa_InvalidProducts => k_is); (case xn_InvalidProducts => k_is); (case xt_InvalidProducts => k_is); (case xm_InvalidProducts => k_is); (case xa_InvalidTexts => k_is); (case xn_InvalidTexts => k_is); (case xt_InvalidTexts => k_is); (case xm_InvalidTexts => k_is); (case xa_InvalidPlaces => k_is); (case xn_InvalidPlaces => k_is); (case xt_InvalidPlaces => k_is); (case xm_InvalidPlaces => k_is); (case xa_InvalidLevels => k_is); (case xn_InvalidLevels => k_is); (case xt_InvalidLevels => k_is); (case xm_InvalidLevels => k_is); (case xa_InvalidRow => k_is); (case xn_InvalidRow => k_is); (case xt_InvalidRow => k_is); (case xm_InvalidRow => k_is); (case xa_OtherLetters => k_is); (case xn_OtherLetters => k_is); (case xt_OtherLetters => k_is); (case xm_OtherLetters => k_is); (case xa_NotComeTo => k_is); (case xn_NotComeTo => k_is); (case xt_NotComeTo => k_is); (case xm_NotComeTo => k_is); (case xa_NeverHeard => k_is); (case xn_NeverHeard => k_is); (case xt_NeverHeard => k_is); (case xm_NeverHeard => k_is); (case xa_NothingToUndo => k_is); (case xn_NothingToUndo => k_is); (case xt_NothingToUndo => k_is); (case xm_NothingToUndo => k_is); (case xa_CommandFailed => k_is); (case xn_CommandFailed => k_is); (case xt_CommandFailed => k_is); (case xm_CommandFailed => k_is); (case xa_TooMany => k_is); (case xn_TooMany => k_is); (case xt_TooMany => k_is); (case xm_TooMany => k_is); (case a_PartsError => k_is); (case a_StateError => k_is); (case a_LimitError => k_is); (case kt => kernel_rfl); (case kg => kernel_rfl); (case et => kernel_rfl); (case z_ArithmeticError => k_is); (case z_RuntimeError => k_is); (case z_ValueError => k_is); (case z_abs => k_is); (case z_all => k_is); (case z_any => k_is); (case z_divmod => k_is); (case z_enumerate => k_is); (case z_int => k_is); (case z_isinstance => k_is); (case z_len => k_is); (case z_max => k_is); (case z_min => k_is); (case z_range => k_is); (case z_repr => k_is); (case z_super => k_is)
  )
